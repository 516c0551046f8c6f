import PyProof.Rows.All
import Wide.All
import OpenK.AllK
import Wide.FinOn
import HandS.SortKw
import HandS.Keys
import HandS.Iter
import HandS.Walk
import HandS.Deep
import HandS.Words
import HandS.Exc
import HandS.SortInts
import HandS.SortOrd
import HandS.ForMost
import HandS.ForExc
import HandS.Style
import HandS.TupAny
import HandS.Conv
import HandS.Small
import HandS.IsInst
import HandS.RaiseMore
import KE.SortData
import KE.DataMinMax
import KE.GoesEnum
import HandS.Rev
import HandS.RevTup
import HandS.TryOnly
import HandS.SetFor
import HandS.HotCalls
import HandS.ExcIs
import HandS.More
import HandS.WordsExc
import HandS.ReplaceLit
import HandS.ReplaceDef
import HandS.ReplaceList
import PyProof.P3Eq
import PySem.Challenge.RW_throng_k39_long_walks_and_rings
set_option Elab.async false
set_option linter.all false
set_option maxRecDepth 100000
set_option maxHeartbeats 4000000
namespace En
open PySem PySem.Spec PyProof.Rows L2 SrtO Srt

/-! ### sorted(x, key=f), f a def -/
/-- the place where a key is asked for -/
abbrev in2 (X : Cx) : Cx := { X with A := X.A.in1.in1, xe := fun _ _ => False }
theorem ok_in2 {X : Cx} (ok : X.Ok) : (in2 X).Ok :=
  ⟨ok.mod, ok.kind, ok.glob, ok.blt, ok.above, ok.inj, ok.has, ok.cab, ok.hd, ok.frames, ok.stk, ok.exf, ok.bs, ok.bsz, ok.noex, ok.exfs, ok.funs, ok.frf⟩
section
variable {X : Cx} {pins : List (Addr × Obj)} {σ : L2.St} {H : Hp} {s : Shared}
theorem inv_in2 (I : Inv X pins σ H s) : Inv (in2 X) pins σ H s := ⟨ok_in2 I.ok, I.os, I.bare, I.base, I.loc, I.cell, I.free, I.freeC, I.pin, I.hok, I.len⟩
theorem inv_of2 (ok : X.Ok) (I : Inv (in2 X) pins σ H s) : Inv X pins σ H s := ⟨ok, I.os, I.bare, I.base, I.loc, I.cell, I.free, I.freeC, I.pin, I.hok, I.len⟩
/-- a thing of ours that is pinned changes -/
theorem ghost_upd {kS a : Addr} {o o' oa : Obj} {h' : Heap} {t' : Nat} (I : Inv X (pins ++ [(kS, o), (a, oa)]) σ H s) (hne : kS ≠ a) (hx : X.s_0.heap.objs.size ≤ kS) (h3 : ∀ p ∈ X.pn ++ pins, p.1 ≠ kS)
    (k : ∀ b u, b ≠ kS → s.heap.get? b = some u → h'.get? b = some u) (e : h'.get? kS = some o') (hd : ∀ v, o'.data ≠ .cell v) : Inv X (pins ++ [(kS, o'), (a, oa)]) σ H { s with heap := h', toks := t' } := by
  obtain ⟨k1, k2, k3, k4, k5⟩ := I.pin (kS, o) (List.mem_append_right _ (List.mem_append_right _ (.head _)))
  obtain ⟨a1, a2, a3, a4, a5⟩ := I.pin (a, oa) (List.mem_append_right _ (List.mem_append_right _ (.tail _ (.head _))))
  have hc : ∀ x c, X.env.cells.lookup x = some c → c ≠ kS := fun x c z q => by
    obtain ⟨v, o2, ho, hd2⟩ := I.cell x c z
    rw [q, k1] at ho
    cases ho
    exact k5 _ hd2
  have J := I.unpinned.turned (t' := t') k k2 k3 (.inr hx) hc h3
  refine J.pins_of fun p hp => ?_
  rcases List.mem_append.mp hp with hp | hp
  · exact J.pin p (List.mem_append_right _ hp)
  · rcases List.mem_cons.mp hp with rfl | hp
    · exact ⟨e, k2, k3, k4, hd⟩
    · rw [List.mem_singleton.mp hp]
      exact ⟨k a oa hne.symm a1, a2, a3, a4, a5⟩
end
/-- by the key alone -/
abbrev ltK (p q : Int × V) : Bool := decide (p.1 < q.1)
theorem swoK {β : Type} : Swo fun (p q : Int × β) => decide (p.1 < q.1) := by
  refine ⟨fun x y h => ?_, fun x y z h1 h2 => ?_⟩
  · have a := of_decide_eq_true h
    exact decide_eq_false (by omega)
  · have a := of_decide_eq_false h1
    have b := of_decide_eq_false h2
    exact decide_eq_false (by omega)
def gV (u : Value) : V := (absV u).getD .non
theorem gV_of {x : V} {u : Value} (r : RelV x u) : gV u = x := by unfold gV; rw [r.abs]; rfl
theorem vals_gV : ∀ {us : List Value}, (∀ u ∈ us, ∃ x, RelV x u) → Vals (us.map gV) us
  | [], _ => .nil
  | u :: us, h => by
    obtain ⟨x, r⟩ := h u List.mem_cons_self
    refine .cons ?_ (vals_gV fun v hv => h v (List.mem_cons_of_mem _ hv))
    rw [gV_of r]
    exact r
theorem gV_map : ∀ {xs : List V} {us : List Value}, Vals xs us → us.map gV = xs
  | _, _, .nil => rfl
  | _, _, .cons r q => by rw [List.map_cons, gV_of r, gV_map q]
theorem vals_has : ∀ {xs : List V} {us : List Value}, Vals xs us → ∀ u ∈ us, ∃ x, RelV x u
  | _, _, .nil, u, h => by cases h
  | _, _, .cons r q, u, h => by
    rcases List.mem_cons.mp h with rfl | h
    · exact ⟨_, r⟩
    · exact vals_has q u h
abbrev gK (p : Keyed) : Int × V := (iv p.1, gV p.2)
theorem gK_zip {ks its : List Value} : (ks.zip its).map gK = (ks.map iv).zip (its.map gV) := by
  induction ks generalizing its with
  | nil => rfl
  | cons k ks ih => cases its with
    | nil => rfl
    | cons u its => simp only [List.zip_cons_cons, List.map_cons, ih]
theorem vals_mem {xs : List V} {us : List Value} (r : Vals xs us) : ∀ p ∈ xs.zip us, RelV p.1 p.2 := by
  induction r with
  | nil => exact fun p hp => by cases hp
  | cons a _ ih =>
    intro p hp
    rcases List.mem_cons.mp hp with rfl | hp
    · exact a
    · exact ih p hp
section
variable {X : Cx} {pins : List (Addr × Obj)} {σ : L2.St} {H : Hp} {s : Shared} {l : Addr} {xs : List V} {kz : List Int} {f : Value} {Q : VK}
theorem srk_run (I : Inv X pins σ H s) (hs : SqL X.K H l xs) (hlen : kz.length = xs.length) (ht : ∀ x, Builtin.«list.sort» ⟨[.ref x], [(Str.ofString "key", f)]⟩ = ksk_tree x f false)
    (turn : ∀ (i : Nat) (x : V) (k : Int), xs[i]? = some x → kz[i]? = some k → ∀ (H' : Hp) (pins' : List (Addr × Obj)) (s' : Shared) (u : Value), Same H H' → Inv (in2 X) pins' σ H' s' → RelV x u →
      wpAny (model X.prog X.w) X.A.in1.in1 (call f [u]) (fun v s'' => (∃ t, v = .int k t) ∧ ∃ H'', Same H' H'' ∧ Inv (in2 X) pins' σ H'' s'') (fun _ _ => False) s')
    (q : ∀ (p : Addr) (H' : Hp) (out : List (Int × V)), Same H H' → H' p = none → Srtd ltK out → Stb ltK out (kz.zip xs) → Q (.ref p) (upd H' p (.lst (out.map (·.2))))) :
    wpAny (model X.prog X.w) X.A (call (.builtin "sorted") [.ref l] [(Str.ofString "key", f)]) (EP X pins σ Q) X.xe s := by
  obtain ⟨its, rv, hl, hz⟩ := I.list hs
  have hli : xs.length = its.length := rv.length
  have hzi : its.length ≤ sizeLine := by omega
  refine call_function_entry_kw kind_sorted plain_sorted entry_sorted (ksk_s1 _ _) ?_
  unfold Builtin.«sorted»
  refine wpAny_bind (m := checkCount "sorted" 1 1 _) (wpAny_pure ?_)
  refine wpAny_bind (collect_list hl.isList ?_ (by simpa using hzi))
  refine wpAny_bind (wpAny_newList ?_ (by simpa using hzi))
  have hsz : ((s.heap.push (seqObj "list" #[] 0)).update s.heap.objs.size (Obj.mapSeq (· ++ its.toArray))).objs.size = s.heap.objs.size + 1 := by
    rw [Heap.size_update, size_push']
  have hoL : (((s.heap.push (seqObj "list" #[] 0)).update s.heap.objs.size (Obj.mapSeq (· ++ its.toArray))).push (seqObj "list" its.toArray 0)).get? (s.heap.objs.size + 1) = some (seqObj "list" its.toArray 0) := by
    rw [← hsz]; exact Heap.get?_push_size _ rfl
  have keep : ∀ b o, s.heap.get? b = some o → (((s.heap.push (seqObj "list" #[] 0)).update s.heap.objs.size (Obj.mapSeq (· ++ its.toArray))).push (seqObj "list" its.toArray 0)).get? b = some o := fun b o q => by
    have hlt : b < s.heap.objs.size := Heap.lt_size q
    rw [Heap.get?_push_ne _ _ _ (by rw [hsz]; exact Nat.ne_of_lt (Nat.lt_succ_of_lt hlt)), Heap.get?_update_ne _ _ _ _ (Nat.ne_of_lt hlt), Heap.get?_push_ne _ _ _ (Nat.ne_of_lt hlt)]
    exact q
  show wpAny _ _ _ _ _ { s with heap := ((s.heap.push (seqObj "list" #[] 0)).update s.heap.objs.size (Obj.mapSeq (· ++ its.toArray))).push (seqObj "list" its.toArray 0) }
  rw [hsz]
  refine wpAny_bind (wpAny_holding (wpAny_call_entry_kw slot_list_sort ⟨_, hoL, rfl⟩ entry_list_sort ?body (ksk_l1 _ _)))
  show wpAny (model X.prog X.w) X.A.in1.in1 (Builtin.«list.sort» ⟨[.ref (s.heap.objs.size + 1)], _⟩) _ _ _
  rw [ht]
  generalize hh1 : ((s.heap.push (seqObj "list" #[] 0)).update s.heap.objs.size (Obj.mapSeq (· ++ its.toArray))).push (seqObj "list" its.toArray 0) = h1 at hoL keep ⊢
  generalize ha : s.heap.objs.size + 1 = a at hoL ⊢
  have has : s.heap.objs.size ≤ a := by omega
  obtain ⟨e1, ho1⟩ : ∃ e1, (h1.update a (Obj.mapSeq fun _ => (#[] : Array Value))).get? a = some (seqObj "list" #[] e1) := ⟨_, get?_update_seq hoL fun _ => #[]⟩
  unfold ksk_tree
  refine wpAny_bind (listItems_at hoL rfl ?_)
  refine wpAny_bind (listUpdate_at hoL rfl ?_ (by rw [List.size_toArray]; exact hzi) (Nat.zero_le _))
  refine wpAny_bind (seqEpoch_at ho1 rfl ?_)
  refine wpAny_bind (wpAny_newTuple ?_ (by show its.length ≤ _; exact hzi))
  refine wpAny_bind (wpAny_newList ?_ (Nat.zero_le _))
  refine wpAny_holding ?_
  have hal : a < h1.objs.size := Heap.lt_size hoL
  have hkS : ((h1.update a (Obj.mapSeq fun _ => (#[] : Array Value))).push (seqObj "tuple" its.toArray 0)).objs.size = h1.objs.size + 1 := by rw [size_push', Heap.size_update]
  have keep2 : ∀ b o, s.heap.get? b = some o → (((h1.update a (Obj.mapSeq fun _ => (#[] : Array Value))).push (seqObj "tuple" its.toArray 0)).push (seqObj "list" #[] 0)).get? b = some o := fun b o e => by
    refine Heap.get?_push_of_some _ (Heap.get?_push_of_some _ ?_)
    have hb : b ≠ a := Nat.ne_of_lt (Nat.lt_of_lt_of_le (Heap.lt_size e) has)
    rw [Heap.get?_update_ne _ _ _ _ hb]
    exact keep b o e
  have hoA : (((h1.update a (Obj.mapSeq fun _ => (#[] : Array Value))).push (seqObj "tuple" its.toArray 0)).push (seqObj "list" #[] 0)).get? a = some (seqObj "list" #[] e1) := Heap.get?_push_of_some _ (Heap.get?_push_of_some _ ho1)
  have hoK : (((h1.update a (Obj.mapSeq fun _ => (#[] : Array Value))).push (seqObj "tuple" its.toArray 0)).push (seqObj "list" #[] 0)).get? (h1.objs.size + 1) = some (seqObj "list" #[] 0) := by
    rw [← hkS]; exact Heap.get?_push_size _ rfl
  show wpAny _ _ (ksk_rest a f false its.toArray e1 (.ref ((h1.update a (Obj.mapSeq fun _ => (#[] : Array Value))).push (seqObj "tuple" its.toArray 0)).objs.size)) _ _ { s with heap := ((h1.update a (Obj.mapSeq fun _ => (#[] : Array Value))).push (seqObj "tuple" its.toArray 0)).push (seqObj "list" #[] 0) }
  rw [hkS]
  generalize ((h1.update a (Obj.mapSeq fun _ => (#[] : Array Value))).push (seqObj "tuple" its.toArray 0)).push (seqObj "list" #[] 0) = h2 at keep2 hoA hoK ⊢
  have hs1 : s.heap.objs.size ≤ h1.objs.size + 1 := by omega
  generalize hkk : h1.objs.size + 1 = kS at hoK hs1 ⊢
  have hka : kS ≠ a := Nat.ne_of_gt (by rw [← hkk]; exact Nat.lt_succ_of_lt hal)
  have fpA := (inv_in2 I).fpOk (b := a) has (I.hok.fresh has)
  have fpK := (inv_in2 I).fpOk (b := kS) hs1 (I.hok.fresh hs1)
  have nocell : ∀ {vs : Array Value} {n : Nat} v, (seqObj "list" vs n).data ≠ .cell v := fun v z => by cases z
  have I2 : Inv (in2 X) (pins ++ [(kS, seqObj "list" #[] 0), (a, seqObj "list" #[] e1)]) σ H { s with heap := h2 } := by
    have J := (inv_in2 I).kept (t' := s.toks) keep2
    refine J.pins_of fun p hp => ?_
    rcases List.mem_append.mp hp with hp | hp
    · exact J.pin p (List.mem_append_right _ hp)
    · rcases List.mem_cons.mp hp with rfl | hp
      · exact ⟨hoK, fpK.1, fpK.2.1, fpK.2.2.1, nocell⟩
      · rw [List.mem_singleton.mp hp]
        exact ⟨hoA, fpA.1, fpA.2.1, fpA.2.2.1, nocell⟩
  have hxK : (in2 X).s_0.heap.objs.size ≤ kS := Nat.le_trans I.sz hs1
  have hpK : ∀ p ∈ (in2 X).pn ++ pins, p.1 ≠ kS := fpK.2.2.2.2.2
  have hpA : ∀ p ∈ (in2 X).pn ++ pins, p.1 ≠ a := fpA.2.2.2.2.2
  unfold ksk_rest
  refine wpAny_bind (wpAny_rule ?_)
  first
    | rw [List.forIn_toArray]
    | (rw [← Array.forIn_toList]; simp only [List.toList_toArray])
    | rw [← Array.forIn_toList]
  refine wpAny_bind (ksk_fold (fun i s' => ∃ H' kA e, Same H H' ∧ Inv (in2 X) (pins ++ [(kS, seqObj "list" kA e), (a, seqObj "list" #[] e1)]) σ H' s' ∧ IntsAre kA.toList (kz.take i)) its 0 _
    ⟨H, #[], 0, fun _ _ z => z, I2, by simpa using IntsAre.nil⟩ ?step ?done)
  case step =>
    rintro j u s' hu ⟨H', kA, e, sm, I', hk⟩
    simp only [Nat.zero_add] at hk ⊢
    have hj : j < its.length := (List.getElem?_eq_some_iff.mp hu).1
    obtain ⟨k, hkj⟩ : ∃ k, kz[j]? = some k := ⟨_, List.getElem?_eq_getElem (by omega)⟩
    obtain ⟨x, hx⟩ : ∃ x, xs[j]? = some x := ⟨_, List.getElem?_eq_getElem (by omega)⟩
    have hrel : RelV x u := by
      refine vals_mem rv (x, u) (List.mem_of_getElem? (i := j) ?_)
      rw [List.getElem?_zip_eq_some]
      exact ⟨hx, hu⟩
    have hz2 : kA.size ≤ its.length := by
      have h1 := hk.length
      rw [Array.length_toList, List.length_take] at h1
      omega
    refine wpAny_bind (wpAny_attempt (wpAny_mono (turn j x k hx hkj H' _ s' u sm I' hrel) (fun v s'' he => ?_) fun _ _ hF => hF.elim))
    obtain ⟨⟨t2, rfl⟩, H'', sm2, I''⟩ := he
    try dsimp only
    obtain ⟨k1, k2, k3, k4, k5⟩ := I''.pin (kS, seqObj "list" kA e) (List.mem_append_right _ (List.mem_append_right _ (.head _)))
    have s1 := Heap.SameBut.update s''.heap kS (Obj.mapSeq (·.push (.int k t2)))
    obtain ⟨c2, hc2⟩ : ∃ c2, (s''.heap.update kS (Obj.mapSeq (·.push (.int k t2)))).get? kS = some (seqObj "list" (kA.push (.int k t2)) c2) := ⟨_, get?_update_seq k1 (·.push (.int k t2))⟩
    have ek : kz.take (j + 1) = kz.take j ++ [k] := by rw [List.take_add_one, hkj]; simp
    have ea : (kA.push (Value.int k t2)).toList = kA.toList ++ [Value.int k t2] := by simp
    refine wpAny_bind (listUpdate_at k1 rfl ?_ (Nat.le_trans hz2 hzi) (Nat.le_trans (Nat.le_of_eq (Array.size_push ..)) (by omega)))
    refine wpAny_pure ⟨rfl, H'', kA.push (.int k t2), c2, sm.trans sm2, ghost_upd I'' hka hxK hpK (fun b o hb e => (s1.2 b hb).trans e) hc2 nocell, by rw [ea, ek]; exact ksk_snoc hk⟩
  case done =>
    rintro s' ⟨H', kA, e, sm, I', hk⟩
    have hk' : IntsAre kA.toList kz := by
      have e3 : kz.take (0 + its.length) = kz := List.take_of_length_le (by omega)
      rw [e3] at hk
      exact hk
    obtain ⟨k1, k2, k3, k4, k5⟩ := I'.pin (kS, seqObj "list" kA e) (List.mem_append_right _ (List.mem_append_right _ (.head _)))
    obtain ⟨a1, a2, a3, a4, a5⟩ := I'.pin (a, seqObj "list" #[] e1) (List.mem_append_right _ (List.mem_append_right _ (.tail _ (.head _))))
    try dsimp only
    refine wpAny_bind (listItems_at k1 rfl ?_)
    have hsk : kA.size = its.length := by
      have h1 := hk'.length
      rw [Array.length_toList] at h1
      omega
    have hmem : ∀ p ∈ (kA.zip its.toArray).toList, p.1 ∈ kA.toList := fun p hp => by
      rw [ksk_zip] at hp
      exact (List.of_mem_zip hp).1
    -- what comes out
    have tail_ : ∀ (st : SortSt), Srtd (lt2 ltIv) (arrOf st).toList → Stb (lt2 ltIv) (arrOf st).toList (kA.zip its.toArray).toList → failedOf st = none →
        wpAny (model X.prog X.w) X.A.in1.in1 (ksk_tail a false e1 (.ref kS) st) (fun r s'' => r = .done (.ret .none) ∧ EP X pins σ Q (.ref a) s'') X.xe s' := by
      intro st o1 o2 o3
      rw [ksk_zip] at o2
      have hlz : (arrOf st).size = its.length := by
        have := o2.perm.length_eq
        rw [Array.length_toList, List.length_zip, Array.length_toList, hsk, Nat.min_self] at this
        exact this
      have hout : ((arrOf st).map (·.2)).size = its.length := by rw [Array.size_map]; exact hlz
      have s1 := Heap.SameBut.update s'.heap kS (Obj.mapSeq fun _ => (#[] : Array Value))
      have na1 : (s'.heap.update kS (Obj.mapSeq fun _ => (#[] : Array Value))).get? a = some (seqObj "list" #[] e1) := (s1.2 a hka.symm).trans a1
      have s2 := Heap.SameBut.update (s'.heap.update kS (Obj.mapSeq fun _ => (#[] : Array Value))) a (Obj.mapSeq fun _ => (arrOf st).map (·.2))
      obtain ⟨c2, hc2⟩ : ∃ c2, ((s'.heap.update kS (Obj.mapSeq fun _ => (#[] : Array Value))).update a (Obj.mapSeq fun _ => (arrOf st).map (·.2))).get? a = some (seqObj "list" ((arrOf st).map (·.2)) c2) :=
        ⟨_, get?_update_seq na1 fun _ => (arrOf st).map (·.2)⟩
      have J1 := ghost_upd (t' := s'.toks) I' hka hxK hpK (fun b o hb e => (s1.2 b hb).trans e) (get?_update_seq k1 fun _ => (#[] : Array Value)) nocell
      have fa : FpOk (in2 X) pins H' a := ⟨a2, a3, a4, .inr (Nat.le_trans I.sz has), fpA.2.2.2.2.1, hpA⟩
      unfold ksk_tail
      try dsimp only
      refine wpAny_bind (listUpdate_at k1 rfl ?_ (by rw [hsk]; exact hzi) (Nat.zero_le _))
      refine wpAny_bind (wpAny_letGo ?_)
      refine wpAny_bind (seqEpoch_at na1 rfl ?_)
      refine wpAny_bind (listUpdate_at na1 rfl ?_ (Nat.zero_le _) (Nat.le_trans (Nat.le_of_eq hout) (by omega)))
      rw [o3]
      simp only [bne_self_eq_false, Bool.false_eq_true, if_false]
      have hrel : ∀ p ∈ (arrOf st).toList, ∃ x, RelV x p.2 := fun p hp => vals_has rv p.2 (List.of_mem_zip (o2.perm.mem_iff.mp hp)).2
      have hv : Vals (((arrOf st).toList.map gK).map (·.2)) ((arrOf st).map (·.2)).toList := by
        have e : ((arrOf st).toList.map gK).map (·.2) = (((arrOf st).map (·.2)).toList).map gV := by
          rw [Array.toList_map, List.map_map, List.map_map]
          rfl
        rw [e]
        refine vals_gV fun u hu => ?_
        rw [Array.toList_map] at hu
        obtain ⟨p, hp, rfl⟩ := List.mem_map.mp hu
        exact hrel p hp
      have hlen2 : (((arrOf st).toList.map gK).map (·.2)).length ≤ sizeLine := by
        rw [List.length_map, List.length_map, Array.length_toList, hlz]
        exact hzi
      have J2 := J1.unpinned.take (t' := s'.toks) (o := .lst (((arrOf st).toList.map gK).map (·.2))) (fun b o hb e => (s2.2 b hb).trans e) fa ⟨hlen2, _, c2, hv, by rw [Array.toArray_toList]; exact hc2⟩
      have St := Stb.map swoK gK (l := (arrOf st).toList) (m := kA.toList.zip its) o2
      rw [gK_zip, gV_map rv, iv_ints hk'] at St
      refine wpAny_pure ⟨rfl, .ref a, _, inv_of2 I.ok J2, rfl, q a H' _ sm a2 (List.pairwise_map.mpr o1) St⟩
    have fin : wpAny (model X.prog X.w) X.A.in1.in1 (ksk_end a false its.toArray e1 (.ref kS) kA) (fun r s'' => r = .done (.ret .none) ∧ EP X pins σ Q (.ref a) s'') X.xe s' := by
      unfold ksk_end
      simp only [Bool.false_eq_true, if_false]
      by_cases h2 : its.toArray.size < 2
      · rw [if_pos h2, if_pos h2]
        refine wpAny_bind (wpAny_pure ?_)
        rw [StateT.run_pure]
        refine wpAny_bind (wpAny_pure ?_)
        try dsimp only
        refine tail_ (SortSt.mk' general' (kA.zip its.toArray) #[] 7 none) ?_ (Stb.refl _) rfl
        show Srtd (lt2 ltIv) (kA.zip its.toArray).toList
        have hl2 : (kA.zip its.toArray).toList.length < 2 := by
          rw [ksk_zip, List.length_zip, Array.length_toList, hsk]
          rw [List.size_toArray] at h2
          omega
        generalize (kA.zip its.toArray).toList = z at hl2
        match z, hl2 with
        | [], _ => exact List.Pairwise.nil
        | [v], _ => exact List.pairwise_singleton _ _
        | _ :: _ :: l, h => exact absurd h (by rw [List.length_cons, List.length_cons]; omega)
      · rw [if_neg h2, if_neg h2]
        rw [List.size_toArray] at h2
        rw [ksk_kind hk' (by rw [hsk]; omega)]
        refine wpAny_bind (wpAny_pure ?_)
        refine wpAny_bind (wpAny_mono (wpS_sortO (st0 := SortSt.mk' oneType' (kA.zip its.toArray) #[] 7 none)
          (Q := fun _ st' => Srtd (lt2 ltIv) (arrOf st').toList ∧ Stb (lt2 ltIv) (arrOf st').toList (kA.zip its.toArray).toList ∧ failedOf st' = none) (swo2 swo_int) (int_cmp hk') rfl hmem rfl rfl fun st' a1 a2 a3 => ⟨a1, a2, a3⟩) ?_ fun _ _ e => e)
        rintro ⟨⟨⟩, st'⟩ s4 ⟨rfl, hp1, hp2, hf⟩
        try dsimp only
        exact tail_ st' hp1 hp2 hf
    refine wpAny_mono fin (fun r s'' h => ?_) fun _ _ z => z
    obtain ⟨rfl, h⟩ := h
    refine ⟨_, rfl, ?_⟩
    exact wpAny_pure ⟨_, rfl, h⟩
end
/-! the one such list -/
section
variable {β γ : Type}
abbrev ltI (p q : Int × β) : Bool := decide (p.1 < q.1)
def insK (p : Int × β) : List (Int × β) → List (Int × β)
  | [] => [p]
  | q :: l => if q.1 < p.1 then q :: insK p l else p :: q :: l
def srtK (l : List (Int × β)) : List (Int × β) := l.foldr insK []
theorem insK_map (f : β → γ) (p : Int × β) : ∀ l : List (Int × β), insK (p.1, f p.2) (l.map fun q => (q.1, f q.2)) = (insK p l).map fun q => (q.1, f q.2)
  | [] => rfl
  | q :: l => by
    rw [List.map_cons]
    unfold insK
    split
    · rw [List.map_cons, insK_map f p l]
    · rfl
theorem srtK_map (f : β → γ) : ∀ l : List (Int × β), srtK (l.map fun q => (q.1, f q.2)) = (srtK l).map fun q => (q.1, f q.2)
  | [] => rfl
  | q :: l => by
    show insK (q.1, f q.2) (srtK (l.map fun q => (q.1, f q.2))) = _
    rw [srtK_map f l, insK_map]
    rfl
theorem insK_srtd (p : Int × β) : ∀ {l : List (Int × β)}, Srtd ltI l → Srtd ltI (insK p l) ∧ ∃ A B, l = A ++ B ∧ insK p l = A ++ p :: B ∧ ∀ a ∈ A, ltI a p = true
  | [], _ => ⟨List.pairwise_singleton _ _, [], [], rfl, rfl, fun a h => by cases h⟩
  | q :: l, h => by
    unfold insK
    have hq := List.pairwise_cons.mp h
    split
    · rename_i hlt
      obtain ⟨h1, A, B, e1, e2, h2⟩ := insK_srtd p hq.2
      refine ⟨List.pairwise_cons.mpr ⟨fun z hz => ?_, h1⟩, q :: A, B, by rw [e1]; rfl, by rw [e2]; rfl, fun a ha => ?_⟩
      · rw [e2] at hz
        have : z = p ∨ z ∈ l := by
          rw [e1]
          rcases List.mem_append.mp hz with z1 | z1
          · exact .inr (List.mem_append_left _ z1)
          · rcases List.mem_cons.mp z1 with z1 | z1
            · exact .inl z1
            · exact .inr (List.mem_append_right _ z1)
        rcases this with rfl | hz
        · exact decide_eq_false (by omega)
        · exact hq.1 z hz
      · rcases List.mem_cons.mp ha with rfl | ha
        · exact decide_eq_true hlt
        · exact h2 a ha
    · rename_i hlt
      refine ⟨List.pairwise_cons.mpr ⟨fun z hz => ?_, h⟩, [], q :: l, rfl, rfl, fun a ha => by cases ha⟩
      rcases List.mem_cons.mp hz with rfl | hz
      · exact decide_eq_false hlt
      · have := of_decide_eq_false (hq.1 z hz)
        exact decide_eq_false (by omega)
theorem stb_move {p : Int × β} : ∀ {A B : List (Int × β)}, (∀ a ∈ A, ltI a p = true) → Stb ltI (A ++ p :: B) (p :: (A ++ B)) := fun {A B} h => by
  refine ⟨List.perm_middle, fun x => ?_⟩
  rw [List.filter_append, List.filter_cons, List.filter_cons, List.filter_append]
  split
  · rename_i hx
    have e : A.filter (eqv ltI x) = [] := List.filter_eq_nil_iff.mpr fun a ha z => by
      have h1 := of_decide_eq_true (h a ha)
      obtain ⟨x1, x2⟩ := eqv_iff.mp hx
      obtain ⟨y1, y2⟩ := eqv_iff.mp z
      have x1 := of_decide_eq_false x1
      have x2 := of_decide_eq_false x2
      have y1 := of_decide_eq_false y1
      have y2 := of_decide_eq_false y2
      omega
    rw [e]
    rfl
  · rfl
theorem stb_cons (p : Int × β) {l m : List (Int × β)} (h : Stb ltI l m) : Stb ltI (p :: l) (p :: m) := ⟨h.perm.cons p, fun x => by
  rw [List.filter_cons, List.filter_cons, h.cls x]⟩
theorem srtK_ok : ∀ l : List (Int × β), Srtd ltI (srtK l) ∧ Stb ltI (srtK l) l
  | [] => ⟨List.Pairwise.nil, Stb.refl _⟩
  | p :: l => by
    obtain ⟨h1, h2⟩ := srtK_ok l
    obtain ⟨k1, A, B, e1, e2, k2⟩ := insK_srtd p h1
    refine ⟨k1, ?_⟩
    show Stb ltI (insK p (srtK l)) (p :: l)
    rw [e2]
    refine (stb_move k2).trans ?_
    rw [← e1]
    exact stb_cons p h2
end
theorem srtK_uniq {out : List (Int × V)} {l : List (Int × V)} (h1 : Srtd ltK out) (h2 : Stb ltK out l) : out = srtK l :=
  stb_uniq swoK h1 (srtK_ok l).1 (h2.trans ⟨(srtK_ok l).2.perm.symm, fun x => ((srtK_ok l).2.cls x).symm⟩)
/-! as a rule -/
def rSrk (K : PySem.W.Frag) (fa : Addr) (sp : Sp) : List V → List V → Hp → VK → Prop := fun vs zs H Q => ∃ (l : Addr) (xs : List V) (kz : List Int), vs = [.ref l] ∧ zs = [.ref fa] ∧ SqL K H l xs ∧ kz.length = xs.length ∧
  (∀ (i : Nat) (x : V) (k : Int), xs[i]? = some x → kz[i]? = some k → ∀ H', Same H H' → sp [x] H' (fun v H'' => v = .int k ∧ Same H' H'') (fun _ _ _ => False)) ∧
  ∀ p H', Same H H' → H' p = none → Q (.ref p) (upd H' p (.lst ((srtK (kz.zip xs)).map (·.2))))
theorem cx_no {P : Program} {w : World} {outer : List Env} {H : Hp} {s s' : Shared} {e : Value} (h : L2.CX P w outer H s (fun _ _ _ => False) e s') : False := by
  obtain ⟨_, _, _, _, _, _, _, _, _, _, _, _, z⟩ := h
  exact z
theorem cr_srk {X : Cx} {k : Nat} {fa : Addr} {fd : FuncData} {ps : List Str} {sp : Sp} (F : FnOk X.prog X.w X.K X.mg X.base (L2.CX X.prog X.w) k fa fd ps sp) (hr : Room (k + 2) X.A) (hb : Binds X.K fd ps []) : CallRK X (.builtin "sorted") [Str.ofString "key"] (rSrk X.K fa sp) := by
  intro pins s σ H vs zs us ws Q I r rz h
  obtain ⟨l, xs, kz, rfl, rfl, hs, hlen, hk, q⟩ := h
  obtain rfl := Vals.ref1 r
  obtain rfl := Vals.ref1 rz
  refine srk_run I hs hlen (fun x => ksk_t1 fa x) (fun i x kk hx hkk H' pins' s' u sm I' ru => ?_) (fun p H' out sm hp h1 h2 => by rw [srtK_uniq h1 h2]; exact q p H' sm hp)
  have hr2 : Room k (in2 X).A := hr.in1.in1
  have hsp := hk i x kk hx hkk H' sm
  refine wpAny_mono (run_fn (X := in2 X) (E := fun _ _ _ => False) F hr2 hb (dvs := []) .nil (fun _ _ _ _ _ _ _ c => (cx_no c).elim) I' (.cons ru .nil) (by rw [List.append_nil]; exact hsp)) (fun v s'' he => ?_) fun _ _ z => z
  obtain ⟨w, H'', I'', rw', rfl, sm2⟩ := he
  obtain ⟨t, rfl⟩ := rw'
  exact ⟨⟨t, rfl⟩, H'', sm2, I''⟩
theorem pe_srk {X : Cx} {k : Nat} {fa : Addr} {fd : FuncData} {ps : List Str} {sp : Sp} {f : Str} {e : Expr} {te : TE} {p1 p2 pos kp : Pos} (F : FnOk X.prog X.w X.K X.mg X.base (L2.CX X.prog X.w) k fa fd ps sp) (hr : Room (k + 2) X.A) (hb : Binds X.K fd ps [])
    (hg : Gl X "sorted") (hm : X.mg "sorted" = none) (hf : Gl X f) (hfd : (f == ("__debug__" : Str)) = false) (hmf : X.mg f = some (.ref fa)) (he : PE X e te) (hst : starEach [e] X.env = (false, eval e X.env) :: starEach [] X.env) :
    PE X (.Call (.Name "sorted" p1) [e] [⟨some (Str.ofString "key"), .Name f p2, kp⟩] pos) (tCKw (rSrk X.K fa sp) (tCons te tNil) (tCons (tC (.ref fa)) tNil)) :=
  pe_callBK (cr_srk F hr hb) hg hm rfl (pa_cons he pa_nil hst) (pk_cons (pe_glob hf hmf rfl hfd) pk_nil) (by decide) (by decide) (by rw [hst]; rfl) (by rw [hst]; rfl)
end En

set_option Elab.async false
set_option linter.all false
set_option maxRecDepth 100000
set_option maxHeartbeats 4000000
namespace En
open PySem PySem.Spec PyProof.Rows L2

abbrev D := PyData
abbrev AS := Addr → Prop
def keyD : Key → D
  | .inl i => .int i
  | .inr x => .str x
/-- a key that is a tuple; a dict of such keys begins, as data, with a mark -/
def keyT (ks : List Key) : D := .tuple (ks.map keyD)

/-! ### data in the heap: lists and dicts at addresses of L, tuples anywhere -/
mutual
inductive Dt (H : Hp) (L : AS) : V → D → Prop
  | non : Dt H L .non .none
  | bl (b : Bool) : Dt H L (.bl b) (.bool b)
  | int (i : Int) : Dt H L (.int i) (.int i)
  | str (x : Str) : Dt H L (.str x) (.str x)
  | lst {a : Addr} {xs : List V} {ds : List D} : L a → Rd H a (.lst xs) → Dts H L xs ds → Dt H L (.ref a) (.list ds)
  | tup {a : Addr} {xs : List V} {ds : List D} : H a = some (.tup xs) → Dts H L xs ds → Dt H L (.ref a) (.tuple ds)
  | dK {a : Addr} {kvs : List (Key × V)} {es : List (D × D)} : L a → H a = some (.dK kvs) → es.map (·.1) = kvs.map (fun kv => keyD kv.1) → Dvs H L (kvs.map (·.2)) es → Dt H L (.ref a) (.dict es)
  | dT {a : Addr} {kvs : List (List Key × V)} {es : List (D × D)} : L a → H a = some (.dT kvs) → es.map (·.1) = .none :: kvs.map (fun kv => keyT kv.1) → Dvs H L (.non :: kvs.map (·.2)) es → Dt H L (.ref a) (.dict es)
inductive Dts (H : Hp) (L : AS) : List V → List D → Prop
  | nil : Dts H L [] []
  | cons {v : V} {vs : List V} {d : D} {ds : List D} : Dt H L v d → Dts H L vs ds → Dts H L (v :: vs) (d :: ds)
inductive Dvs (H : Hp) (L : AS) : List V → List (D × D) → Prop
  | nil : Dvs H L [] []
  | cons {v : V} {vs : List V} {e : D × D} {es : List (D × D)} : Dt H L v e.2 → Dvs H L vs es → Dvs H L (v :: vs) (e :: es)
end

mutual
theorem Dt.go {H H' : Hp} {L L' : AS} (hl : ∀ a u, L a → H a = some u → H' a = some u ∧ L' a) (ht : ∀ a xs, H a = some (.tup xs) → H' a = some (.tup xs)) : ∀ (d : D) (v : V), Dt H L v d → Dt H' L' v d
  | .none, _, h => by cases h; exact .non
  | .bool _, _, h => by cases h; exact .bl _
  | .int _, _, h => by cases h; exact .int _
  | .str _, _, h => by cases h; exact .str _
  | .list ds, _, h => by
    cases h with
    | lst q r s =>
      have z : Rd H' _ _ ∧ L' _ := r.elim (fun e => ⟨.inl (hl _ _ q e).1, (hl _ _ q e).2⟩) fun ⟨o, e⟩ => ⟨.inr ⟨o, (hl _ _ q e).1⟩, (hl _ _ q e).2⟩
      exact .lst z.2 z.1 (Dts.go hl ht ds _ s)
  | .tuple ds, _, h => by
    cases h with
    | tup r s => exact .tup (ht _ _ r) (Dts.go hl ht ds _ s)
  | .dict es, _, h => by
    cases h with
    | dK q r e s => exact .dK (hl _ _ q r).2 (hl _ _ q r).1 e (Dvs.go hl ht es _ s)
    | dT q r e s => exact .dT (hl _ _ q r).2 (hl _ _ q r).1 e (Dvs.go hl ht es _ s)
theorem Dts.go {H H' : Hp} {L L' : AS} (hl : ∀ a u, L a → H a = some u → H' a = some u ∧ L' a) (ht : ∀ a xs, H a = some (.tup xs) → H' a = some (.tup xs)) : ∀ (ds : List D) (vs : List V), Dts H L vs ds → Dts H' L' vs ds
  | [], _, h => by cases h; exact .nil
  | d :: ds, _, h => by
    cases h with
    | cons h1 h2 => exact .cons (Dt.go hl ht d _ h1) (Dts.go hl ht ds _ h2)
theorem Dvs.go {H H' : Hp} {L L' : AS} (hl : ∀ a u, L a → H a = some u → H' a = some u ∧ L' a) (ht : ∀ a xs, H a = some (.tup xs) → H' a = some (.tup xs)) : ∀ (es : List (D × D)) (vs : List V), Dvs H L vs es → Dvs H' L' vs es
  | [], _, h => by cases h; exact .nil
  | e :: es, _, h => by
    cases h with
    | cons h1 h2 => exact .cons (Dt.go hl ht e.2 _ h1) (Dvs.go hl ht es _ h2)
end

theorem sm_rd {H H' : Hp} (e : Same H H') {a : Addr} {u : HO} (h : Rd H a u) : Rd H' a u := by
  rcases h with h | ⟨o, h⟩
  · exact .inl (e _ _ h)
  · exact .inr ⟨o, e _ _ h⟩
theorem same_new {H : Hp} {p : Addr} {o : HO} (h : H p = none) : Same H (upd H p o) := fun b x e => by
  rw [upd_ne (ne_of_none e h)]
  exact e
theorem sm_dt {H H' : Hp} {L : AS} (e : Same H H') {d : D} {v : V} (h : Dt H L v d) : Dt H' L v d := Dt.go (fun _ _ l r => ⟨e _ _ r, l⟩) (fun _ _ r => e _ _ r) d v h
theorem sm_dts {H H' : Hp} {L : AS} (e : Same H H') {ds : List D} {vs : List V} (h : Dts H L vs ds) : Dts H' L vs ds := Dts.go (fun _ _ l r => ⟨e _ _ r, l⟩) (fun _ _ r => e _ _ r) ds vs h
theorem sm_dvs {H H' : Hp} {L : AS} (e : Same H H') {es : List (D × D)} {vs : List V} (h : Dvs H L vs es) : Dvs H' L vs es := Dvs.go (fun _ _ l r => ⟨e _ _ r, l⟩) (fun _ _ r => e _ _ r) es vs h
theorem Dt.wk {H : Hp} {L L' : AS} (l : ∀ a, L a → L' a) {d : D} {v : V} (h : Dt H L v d) : Dt H L' v d := Dt.go (fun a _ q r => ⟨r, l a q⟩) (fun _ _ r => r) d v h
theorem Dts.wk {H : Hp} {L L' : AS} (l : ∀ a, L a → L' a) {ds : List D} {vs : List V} (h : Dts H L vs ds) : Dts H L' vs ds := Dts.go (fun a _ q r => ⟨r, l a q⟩) (fun _ _ r => r) ds vs h
theorem Dvs.wk {H : Hp} {L L' : AS} (l : ∀ a, L a → L' a) {es : List (D × D)} {vs : List V} (h : Dvs H L vs es) : Dvs H L' vs es := Dvs.go (fun a _ q r => ⟨r, l a q⟩) (fun _ _ r => r) es vs h

theorem Dts.length {H : Hp} {L : AS} : ∀ {vs : List V} {ds : List D}, Dts H L vs ds → vs.length = ds.length
  | [], _, h => by cases h; rfl
  | _ :: _, _, h => by
    cases h with
    | cons _ t => rw [List.length_cons, List.length_cons, t.length]
theorem Dts.append {H : Hp} {L : AS} : ∀ {vs ws : List V} {ds es : List D}, Dts H L vs ds → Dts H L ws es → Dts H L (vs ++ ws) (ds ++ es)
  | [], _, _, _, h, k => by cases h; exact k
  | _ :: _, _, _, _, h, k => by
    cases h with
    | cons q t => exact .cons q (t.append k)
theorem Dts.reverse {H : Hp} {L : AS} : ∀ {vs : List V} {ds : List D}, Dts H L vs ds → Dts H L vs.reverse ds.reverse
  | [], _, h => by cases h; exact .nil
  | v :: vs, _, h => by
    cases h with
    | cons q t =>
      rw [List.reverse_cons, List.reverse_cons]
      exact t.reverse.append (.cons q .nil)
theorem Dts.get {H : Hp} {L : AS} : ∀ {vs : List V} {ds : List D} {i : Nat} {d : D}, Dts H L vs ds → ds[i]? = some d → ∃ v, vs[i]? = some v ∧ Dt H L v d
  | [], _, _, _, h, e => by cases h; simp at e
  | v :: _, _, 0, _, h, e => by
    cases h with
    | cons q t => simp at e; subst e; exact ⟨v, rfl, q⟩
  | _ :: _, _, i + 1, _, h, e => by
    cases h with
    | cons q t => simpa using t.get (i := i) (by simpa using e)
theorem Dts.getV {H : Hp} {L : AS} : ∀ {vs : List V} {ds : List D} {i : Nat} {v : V}, Dts H L vs ds → vs[i]? = some v → ∃ d, ds[i]? = some d ∧ Dt H L v d
  | [], _, _, _, h, e => by simp at e
  | _ :: _, _, 0, _, h, e => by
    cases h with
    | cons q t => simp at e; subst e; exact ⟨_, rfl, q⟩
  | _ :: _, _, i + 1, _, h, e => by
    cases h with
    | cons q t => simpa using t.getV (i := i) (by simpa using e)
theorem Dts.drop {H : Hp} {L : AS} : ∀ {vs : List V} {ds : List D} (n : Nat), Dts H L vs ds → Dts H L (vs.drop n) (ds.drop n)
  | _, _, 0, h => by simpa using h
  | [], _, n + 1, h => by cases h; simpa using Dts.nil
  | _ :: _, _, n + 1, h => by
    cases h with
    | cons q t => simpa using t.drop n
theorem Dts.take {H : Hp} {L : AS} : ∀ {vs : List V} {ds : List D} (n : Nat), Dts H L vs ds → Dts H L (vs.take n) (ds.take n)
  | _, _, 0, h => by simpa using Dts.nil
  | [], _, n + 1, h => by cases h; simpa using Dts.nil
  | _ :: _, _, n + 1, h => by
    cases h with
    | cons q t => simpa using Dts.cons q (t.take n)
theorem Dts.set {H : Hp} {L : AS} {v : V} {d : D} (q : Dt H L v d) : ∀ {vs : List V} {ds : List D} (i : Nat), Dts H L vs ds → Dts H L (vs.set i v) (ds.set i d)
  | [], _, _, h => by cases h; simpa using Dts.nil
  | _ :: _, _, 0, h => by
    cases h with
    | cons r t => simpa using Dts.cons q t
  | _ :: _, _, i + 1, h => by
    cases h with
    | cons r t => simpa using Dts.cons r (t.set q i)
theorem Dts.rev {H : Hp} {L : AS} : ∀ {vs : List V} {ds : List D}, Dts H L vs ds → Dts H L vs.reverse ds.reverse
  | [], _, h => by cases h; simpa using Dts.nil
  | _ :: _, _, h => by
    cases h with
    | cons r t => simpa using t.rev.append (.cons r .nil)
theorem Dts.cons_inv {H : Hp} {L : AS} {v : V} {vs : List V} {d : D} {ds : List D} (h : Dts H L (v :: vs) (d :: ds)) : Dt H L v d ∧ Dts H L vs ds := by
  cases h with
  | cons a b => exact ⟨a, b⟩
theorem Dts.cons_inv' {H : Hp} {L : AS} {vs : List V} {d : D} {ds : List D} (h : Dts H L vs (d :: ds)) : ∃ v ws, vs = v :: ws ∧ Dt H L v d ∧ Dts H L ws ds := by
  cases h with
  | cons a b => exact ⟨_, _, rfl, a, b⟩
theorem dts_new {H : Hp} {L : AS} {p : Addr} {o : HO} (hp : H p = none) {ds : List D} {vs : List V} (h : Dts H L vs ds) : Dts (upd H p o) (fun b => L b ∧ b ≠ p) vs ds :=
  Dts.go (fun a _ l e => ⟨same_new hp _ _ e, l, fun z => by rw [z, hp] at e; cases e⟩) (fun _ _ r => same_new hp _ _ r) ds vs h
/-- all of it -/
abbrev Any : AS := fun _ => True
mutual
def noD : D → Bool
  | .list ds => noDs ds
  | .tuple ds => noDs ds
  | .dict _ => false
  | _ => true
def noDs : List D → Bool
  | [] => true
  | d :: ds => noD d && noDs ds
end
mutual
theorem Dt.dp {K : PySem.W.Frag} {H : Hp} {L : AS} : ∀ (d : D) (v : V), noD d = true → Dt H L v d → Dp K H v d
  | .none, _, _, h => by cases h; exact .non
  | .bool _, _, _, h => by cases h; exact .bl _
  | .int _, _, _, h => by cases h; exact .int _
  | .str _, _, _, h => by cases h; exact .str _
  | .list ds, _, n, h => by
    cases h with
    | lst q r s => exact .lst (.inl r) (Dts.dp ds _ (by simpa [noD] using n) s)
  | .tuple ds, _, n, h => by
    cases h with
    | tup r s => exact .tup (.inl (.inl r)) (Dts.dp ds _ (by simpa [noD] using n) s)
  | .dict es, _, n, h => by simp [noD] at n
theorem Dts.dp {K : PySem.W.Frag} {H : Hp} {L : AS} : ∀ (ds : List D) (vs : List V), noDs ds = true → Dts H L vs ds → DpAll K H vs ds
  | [], _, _, h => by cases h; exact .nil
  | d :: ds, _, n, h => by
    simp only [noDs, Bool.and_eq_true] at n
    cases h with
    | cons h1 h2 => exact .cons (Dt.dp d _ n.1 h1) (Dts.dp ds _ n.2 h2)
end
mutual
theorem noD_of : ∀ d : D, d.canLay0 = true → noD d = true
  | .none, _ => rfl
  | .bool _, _ => rfl
  | .int _, _ => rfl
  | .str _, _ => rfl
  | .list ds, h => by simp only [PyData.canLay0] at h; simpa [noD] using noDs_of ds h
  | .tuple ds, h => by simp only [PyData.canLay0] at h; simpa [noD] using noDs_of ds h
  | .dict _, h => by simp [PyData.canLay0] at h
theorem noDs_of : ∀ ds : List D, PyData.canLayAll0 ds = true → noDs ds = true
  | [], _ => rfl
  | d :: ds, h => by
    simp only [PyData.canLayAll0, Bool.and_eq_true] at h
    simp [noDs, noD_of d h.1, noDs_of ds h.2]
end

/-- what is known of the top: the content, what is in it lies in L -/
inductive Cn (H : Hp) (L : AS) : V → D → Prop
  | non : Cn H L .non .none
  | bl (b : Bool) : Cn H L (.bl b) (.bool b)
  | int (i : Int) : Cn H L (.int i) (.int i)
  | str (x : Str) : Cn H L (.str x) (.str x)
  | lst {a : Addr} {xs : List V} {ds : List D} : Rd H a (.lst xs) → Dts H L xs ds → Cn H L (.ref a) (.list ds)
  | tup {a : Addr} {xs : List V} {ds : List D} : H a = some (.tup xs) → Dts H L xs ds → Cn H L (.ref a) (.tuple ds)
  | dK {a : Addr} {kvs : List (Key × V)} {es : List (D × D)} : H a = some (.dK kvs) → es.map (·.1) = kvs.map (fun kv => keyD kv.1) → Dvs H L (kvs.map (·.2)) es → Cn H L (.ref a) (.dict es)
  | dT {a : Addr} {kvs : List (List Key × V)} {es : List (D × D)} : H a = some (.dT kvs) → es.map (·.1) = .none :: kvs.map (fun kv => keyT kv.1) → Dvs H L (.non :: kvs.map (·.2)) es → Cn H L (.ref a) (.dict es)
theorem Dt.cn {H : Hp} {L : AS} {v : V} {d : D} (h : Dt H L v d) : Cn H L v d := by
  cases h with
  | non => exact .non
  | bl b => exact .bl b
  | int i => exact .int i
  | str x => exact .str x
  | lst _ r s => exact .lst r s
  | tup r s => exact .tup r s
  | dK _ r e s => exact .dK r e s
  | dT _ r e s => exact .dT r e s
theorem Cn.any {H : Hp} {L : AS} {v : V} {d : D} (h : Cn H L v d) : Dt H Any v d := by
  cases h with
  | non => exact .non
  | bl b => exact .bl b
  | int i => exact .int i
  | str x => exact .str x
  | lst r s => exact .lst trivial r (s.wk fun _ _ => trivial)
  | tup r s => exact .tup r (s.wk fun _ _ => trivial)
  | dK r e s => exact .dK trivial r e (s.wk fun _ _ => trivial)
  | dT r e s => exact .dT trivial r e (s.wk fun _ _ => trivial)
theorem Cn.wk {H : Hp} {L L' : AS} (l : ∀ a, L a → L' a) {v : V} {d : D} (h : Cn H L v d) : Cn H L' v d := by
  cases h with
  | non => exact .non
  | bl b => exact .bl b
  | int i => exact .int i
  | str x => exact .str x
  | lst r s => exact .lst r (s.wk l)
  | tup r s => exact .tup r (s.wk l)
  | dK r e s => exact .dK r e (s.wk l)
  | dT r e s => exact .dT r e (s.wk l)
theorem sm_cn {H H' : Hp} {L : AS} (e : Same H H') {v : V} {d : D} (h : Cn H L v d) : Cn H' L v d := by
  cases h with
  | non => exact .non
  | bl b => exact .bl b
  | int i => exact .int i
  | str x => exact .str x
  | lst r s => exact .lst (sm_rd e r) (sm_dts e s)
  | tup r s => exact .tup (e _ _ r) (sm_dts e s)
  | dK r e' s => exact .dK (e _ _ r) e' (sm_dvs e s)
  | dT r e' s => exact .dT (e _ _ r) e' (sm_dvs e s)
theorem Cn.dp {K : PySem.W.Frag} {H : Hp} {L : AS} {v : V} {d : D} (h : Cn H L v d) (n : noD d = true) : Dp K H v d := Dt.dp d v n h.any

/-! nothing that changes is within -/
mutual
def imm : D → Bool
  | .list _ => false
  | .dict _ => false
  | .tuple ds => imms ds
  | _ => true
def imms : List D → Bool
  | [] => true
  | d :: ds => imm d && imms ds
end
mutual
theorem Dt.imm {H : Hp} {L L' : AS} : ∀ (d : D) (v : V), En.imm d = true → Dt H L v d → Dt H L' v d
  | .none, _, _, h => by cases h; exact .non
  | .bool _, _, _, h => by cases h; exact .bl _
  | .int _, _, _, h => by cases h; exact .int _
  | .str _, _, _, h => by cases h; exact .str _
  | .list ds, _, n, h => by simp [En.imm] at n
  | .tuple ds, _, n, h => by
    cases h with
    | tup r s => exact .tup r (Dts.imm ds _ (by simpa [En.imm] using n) s)
  | .dict es, _, n, h => by simp [En.imm] at n
theorem Dts.imm {H : Hp} {L L' : AS} : ∀ (ds : List D) (vs : List V), imms ds = true → Dts H L vs ds → Dts H L' vs ds
  | [], _, _, h => by cases h; exact .nil
  | d :: ds, _, n, h => by
    simp only [imms, Bool.and_eq_true] at n
    cases h with
    | cons h1 h2 => exact .cons (Dt.imm d _ n.1 h1) (Dts.imm ds _ n.2 h2)
end

/-! ### what an operation yields: a new list (nw), or data -/
def Zn (H : Hp) (L : AS) (H' : Hp) (z : V) (nw : Bool) (d : D) : Prop :=
  Same H H' ∧ (if nw = true then ∃ p xs ds, z = .ref p ∧ H p = none ∧ d = .list ds ∧ H' p = some (.lst xs) ∧ Dts H' (fun b => L b ∧ b ≠ p) xs ds else Dt H' L z d)
end En

set_option Elab.async false
set_option linter.all false
set_option maxRecDepth 100000
set_option maxHeartbeats 4000000
namespace En
open PySem PySem.Spec PyProof.Rows L2

/-! ### results, slots -/
inductive R (α : Type) where
  | bad
  | err (x : Str)
  | ok (a : α)
def R.bind {α β : Type} (r : R α) (f : α → R β) : R β := match r with
  | .bad => .bad
  | .err x => .err x
  | .ok a => f a
/-- data that stands still (m: may hold lists of old), a new list of one's own, one that is lent -/
inductive Rv where
  | fr (m : Bool) (d : D)
  | ow (m : Bool) (d : D)
  | bo (m : Bool) (d : D)
  /-- of a def that changes what it is given: at which places, and how that is then -/
  | mt (mask : List Nat) (news : List (Bool × D))
def Rv.d : Rv → D
  | .fr _ d => d
  | .ow _ d => d
  | .bo _ d => d
  | .mt _ _ => .none
def Rv.m : Rv → Bool
  | .fr m _ => m
  | .ow m _ => m
  | .bo m _ => m
  | .mt _ _ => false
inductive Sl where
  | no
  | fr (m : Bool) (d : D)
  | ow (m : Bool) (d : D)
  | pt (v : V)
  | kn (v : V) (m : Bool) (d : D)
  | ko (a : Addr) (m : Bool) (d : D)
/-- a thing of one's own; one whose place is known stands for what was handed in to be changed -/
def ownAt : Option Sl → Option (Option Addr × Bool × D)
  | some (.ow m d) => some (none, m, d)
  | some (.ko a m d) => some (some a, m, d)
  | _ => none
def reow : Option Addr → Bool → D → Sl
  | none, m, d => .ow m d
  | some a, m, d => .ko a m d

/-! ### the written program -/
inductive MG where
  | n (i : Nat)
  | t (l : List Nat)
mutual
inductive ME where
  | v (i : Nat)
  | kn
  | kb (b : Bool)
  | ki (i : Int)
  | ks (s : Str)
  | lst (es : MEs)
  | tup (es : MEs)
  | dK0
  | dT0
  | bin (op : Operator) (a b : ME)
  | neg (a : ME)
  | cmp (op : CmpOp) (a b : ME)
  | chn (op op2 : CmpOp) (a b c : ME)
  | bop (con : Bool) (es : MEs)
  | not_ (a : ME)
  | ite (c a b : ME)
  | ix (a i : ME)
  | sl (a : ME) (lo hi : MO)
  | bi (f : Str) (es : MEs)
  | isi (a : ME) (T : Str)
  | mt (o : ME) (f : Str) (es : MEs)
  | call (f : Str) (es : MEs)
  | lc (g : MG) (it : MI) (c : MO) (elt : ME)
  | lr (a b : MO)
  | rvl (a : ME)
  | rep (a : ME) (y z : Str)
  | srk (a : ME) (f : Str)
  | dgt (i : Nat) (k d : ME)
  | lix (a b : ME)
  | dix (a k : ME)
  | sset (a : ME)
inductive MEs where
  | nil
  | cons (e : ME) (es : MEs)
inductive MO where
  | no
  | so (e : ME)
inductive MI where
  | e (a : ME)
  | r1 (a : ME)
  | r2 (a b : ME)
  | r3 (a b c : ME)
  | zip (a b : ME)
  | zip3 (a b c : ME)
  | enum (a : ME)
  | rev (a : ME)
end
mutual
inductive WT where
  | is (c : Str)
  | tup (cs : List Str)
  | or (ts : WTs)
  | not (t : WT)
inductive WTs where
  | one (t : WT)
  | cons (t : WT) (ts : WTs)
end
/-- what an except clause does: a text given to a slot, so where a test holds, what a def tells in words -/
inductive XSt where
  | set (i : Nat) (z : Str)
  | ifs (t : WT) (i : Nat) (z : Str)
  | word (i : Nat) (f : Str)
/-- what a try clause does: calls -/
inductive TB where
  | ex (f : Str) (es : MEs)
  | st (i : Nat) (own : Bool) (f : Str) (es : MEs)
  | if_ (c : ME) (a b : TB)
/-! statements; own: the new list is to be changed here -/
mutual
inductive MS where
  | skip
  | set (i : Nat) (e : ME) (own : Bool)
  | unp (l : List Nat) (e : ME)
  | par (i j : Nat) (a b : ME)
  | ret (e : ME)
  | retN
  | reto (i : Nat)
  | ife (c : ME) (a b : MSs)
  | for_ (g : MG) (it : MI) (b : MSs)
  | whl (c : ME) (b : MSs)
  | exp (e : ME)
  | app (i : Nat) (e : ME)
  | ext (i : Nat) (e : ME)
  | put (i : Nat) (k e : ME)
  | ins (i : Nat) (k e : ME)
  | popS (x i : Nat)
  | popI (x i : Nat) (k : ME)
  | appPop (i j : Nat) (k : ME)
  | appTPop (i : Nat) (e : ME) (j : Nat) (k : ME)
  | popX (i : Nat) (k : ME)
  | mc (f : Str) (es : MEs)
  | raise_ (x m : Str)
  | mov (i j : Nat)
  | dput (i : Nat) (k e : ME)
  | try_ (b : TB) (tb : List (Str × List (Nat × Str))) (n : Nat) (sx : List XSt)
  | brk
  | cnt
  | never
inductive MSs where
  | nil
  | cons (s : MS) (r : MSs)
  | frz (i : Nat) (r : MSs)
end

/-! ### operations on data -/
def sc : D → Bool
  | .none => true
  | .bool _ => true
  | .int _ => true
  | .str _ => true
  | _ => false
def mk (m nw : Bool) (d : D) : Rv := if nw then .ow m d else .fr (m && !sc d) d
def scV : D → Option V
  | .none => some .non
  | .bool b => some (.bl b)
  | .int i => some (.int i)
  | .str x => some (.str x)
  | _ => none
def fits (n : Nat) : Bool := decide (n ≤ sizeLine)
def semBin (op : Operator) (d e : D) : Option (Bool × D) :=
  match op, d, e with
  | .Add, .int i, .int j => some (false, .int (i + j))
  | .Add, .str x, .str y => if fits (x.length + y.length) then some (false, .str (x ++ y)) else none
  | .Add, .list a, .list b => if fits (a.length + b.length) then some (true, .list (a ++ b)) else none
  | .Add, .tuple a, .tuple b => if fits (a.length + b.length) then some (false, .tuple (a ++ b)) else none
  | .Sub, .int i, .int j => some (false, .int (i - j))
  | .Mult, .int i, .int j => if (decide (-(2 ^ 64) < i) && decide (i < 2 ^ 64)) || (decide (-(2 ^ 64) < j) && decide (j < 2 ^ 64)) then some (false, .int (i * j)) else none
  | .Mult, .str x, .int k => if decide (-(2 ^ 63) ≤ k) && decide (k < 2 ^ 63) && fits (x.length * k.toNat) then some (false, .str ⟨((List.replicate k.toNat x.cps.toList).flatten).toArray⟩) else none
  | .Mult, .list xs, .int k => if decide (-(2 ^ 63) ≤ k) && decide (k < 2 ^ 63) && fits (xs.length * k.toNat) then some (true, .list (List.replicate k.toNat xs).flatten) else none
  | .FloorDiv, .int i, .int j => if decide (0 < j) && decide (j < 1073741824) then some (false, .int (i / j)) else none
  | .Mod, .int i, .int j => if decide (0 < j) then some (false, .int (i % j)) else none
  | .Pow, .int i, .int j => if decide (0 ≤ j) && decide (j ≤ 1000000) && decide (i.natAbs < 2 ^ 64) then some (false, .int (i ^ j.toNat)) else none
  | _, _, _ => none
def shp (d : D) : Bool := SeqAt.shaped d
def eqO (d e : D) : Option Bool :=
  match scV d, scV e with
  | some x, some y => if scal x y then some (decide (x = y)) else if shp d && shp e then some (PyData.eqv d e) else none
  | _, _ => if shp d && shp e then some (PyData.eqv d e) else none
/-- dicts with texts as keys -/
def isK (d : D) (k : Str) : Bool := match d with
  | .str y => decide (y = k)
  | _ => false
def hasS (es : List (D × D)) (k : Str) : Bool := (es.map (·.1)).any fun d => isK d k
def getS : List (D × D) → Str → Option D
  | [], _ => none
  | e :: es, k => if isK e.1 k then some e.2 else getS es k
def putS (es : List (D × D)) (k : Str) (v : D) : List (D × D) := if hasS es k then es.map (fun e => if isK e.1 k then (e.1, v) else e) else es ++ [(.str k, v)]
/-- dicts with tuples as keys: a mark ahead -/
def keyO : D → Option Key
  | .int i => some (.inl i)
  | .str x => some (.inr x)
  | _ => none
def keysO : List D → Option (List Key)
  | [] => some []
  | d :: ds => match keyO d, keysO ds with
    | some k, some ks => some (k :: ks)
    | _, _ => none
def tupO : D → Option (List Key)
  | .tuple ds => keysO ds
  | _ => none
def isT : List (D × D) → Bool
  | (.none, _) :: _ => true
  | _ => false
def hasT (es : List (D × D)) (k : List Key) : Bool := es.any fun e => decide (tupO e.1 = some k)
def getT : List (D × D) → List Key → Option D
  | [], _ => none
  | e :: es, k => if tupO e.1 = some k then some e.2 else getT es k
def putT (es : List (D × D)) (k : List Key) (v : D) : List (D × D) := if hasT es k then es.map (fun e => if tupO e.1 = some k then (e.1, v) else e) else es ++ [(keyT k, v)]
def dget (es : List (D × D)) : D → Option (Option D)
  | .str k => if isT es then none else some (getS es k)
  | .tuple ds => if isT es then (keysO ds).map (getT es) else none
  | _ => none
def dputD (es : List (D × D)) (y v : D) : Option (List (D × D)) := match y with
  | .str k => if isT es then none else some (putS es k v)
  | .tuple ds => if isT es then (keysO ds).map fun k => putT es k v else none
  | _ => none
def inO (x y : D) : Option Bool :=
  match y with
  | .dict es => match x with
    | .str k => if isT es then none else some (hasS es k)
    | .tuple ds => if isT es then (keysO ds).map (hasT es) else none
    | _ => none
  | .str z => match x with
    | .str w => match w.cps.toList with
      | [c] => some (decide (c ∈ z.cps.toList))
      | _ => none
    | _ => none
  | .list ds => if sc x && ds.all sc then some (ds.any fun z => PyData.eqv z x) else if shp x && shp (.list ds) then some (ds.any fun z => PyData.eqv z x) else none
  | .tuple ds => if sc x && ds.all sc then some (ds.any fun z => PyData.eqv z x) else none
  | _ => none
def semLix (d e : D) : Option Int := match d with
  | .list ds => if (sc e && ds.all sc) || (shp e && shp (.list ds)) then (ds.findIdx? fun z => PyData.eqv z e).map fun j => (j : Int) else none
  | _ => none
def isO (x y : D) : Option Bool :=
  match y with
  | .none => some (match x with | .none => true | _ => false)
  | .bool b => match x with
    | .bool a => some (decide (a = b))
    | _ => none
  | _ => none
def semCmp (op : CmpOp) (d e : D) : Option Bool :=
  match op with
  | .Eq => eqO d e
  | .NotEq => (eqO d e).map (!·)
  | .Lt => match d, e with | .int i, .int j => some (decide (i < j)) | .str i, .str j => some (decide (i.cps.toList < j.cps.toList)) | _, _ => none
  | .LtE => match d, e with | .int i, .int j => some (decide (i ≤ j)) | _, _ => none
  | .Gt => match d, e with | .int i, .int j => some (decide (j < i)) | _, _ => none
  | .GtE => match d, e with | .int i, .int j => some (decide (j ≤ i)) | _, _ => none
  | .In => inO d e
  | .NotIn => (inO d e).map (!·)
  | .Is => isO d e
  | .IsNot => (isO d e).map (!·)
def semIx (d i : D) : Option D :=
  match d, i with
  | .list ds, .int k => atI ds k
  | .tuple ds, .int k => atI ds k
  | .str z, .int k => if fits z.length then (atI z.cps.toList k).map fun c => .str ⟨#[c]⟩ else none
  | _, _ => none
def cutL {α : Type} (xs : List α) (lo hi : Option Int) : List α := (xs.drop (HT.sIx xs.length 0 lo)).take (HT.sIx xs.length xs.length hi - HT.sIx xs.length 0 lo)
def semSl (d : D) (l h : Option Int) : Option (Bool × D) := match d with
  | .list ds => some (true, .list (cutL ds l h))
  | .tuple ds => some (false, .tuple (cutL ds l h))
  | .str z => if fits z.length then some (false, .str ⟨(cutL z.cps.toList l h).toArray⟩) else none
  | _ => none
def isInt : D → Option Int
  | .int i => some i
  | _ => none
def isStr : D → Option Str
  | .str x => some x
  | _ => none
def isBl : D → Option Bool
  | .bool x => some x
  | _ => none
def allO {α : Type} (f : D → Option α) : List D → Option (List α)
  | [] => some []
  | d :: ds => match f d, allO f ds with
    | some a, some r => some (a :: r)
    | _, _ => none
def maxL : List Int → Option Int
  | [] => none
  | x :: xs => some (xs.foldl (fun a b => if a < b then b else a) x)
def minL : List Int → Option Int
  | [] => none
  | x :: xs => some (xs.foldl (fun a b => if b < a then b else a) x)
def sortI (l : List Int) : List Int := l.mergeSort fun a b => decide (a ≤ b)
/-- data that can be compared with one another -/
def alk (l : List D) : Bool := l.all fun x => l.all fun y => PySem.W.alike x y
def srtb (l : List D) : Bool := l.all (fun d => match d with
    | .tuple (_ :: _) => true
    | _ => false) || l.all (fun d => match d with
    | .none => false
    | .tuple _ => false
    | _ => true)
def noN (l : List D) : Bool := l.all fun d => match d with
  | .none => false
  | _ => true
def sortD (l : List D) : List D := l.mergeSort fun a b => !PySem.W.dataLt b a
/-- each once -/
def once {α : Type} [DecidableEq α] : List α → List α
  | [] => []
  | x :: l => if x ∈ l then once l else x :: once l
def digit (x : Str) : Option Int :=
  match x.cps.toList with
  | [c] => if 48 ≤ c ∧ c ≤ 57 then some ((c : Int) - 48) else none
  | _ => none
def s_len (ds : List D) : Option (Bool × D) := match ds with
  | [.list l] => some (false, .int l.length)
  | [.tuple l] => some (false, .int l.length)
  | [.str z] => if fits z.length then some (false, .int z.length) else none
  | _ => none
def s_list (ds : List D) : Option (Bool × D) := match ds with
  | [.list l] => some (true, .list l)
  | [.tuple l] => some (true, .list l)
  | [.str z] => if fits z.cps.toList.length then some (true, .list (z.cps.toList.map fun c => .str ⟨#[c]⟩)) else none
  | _ => none
def s_tuple (ds : List D) : Option (Bool × D) := match ds with
  | [.list l] => some (false, .tuple l)
  | [.tuple l] => some (false, .tuple l)
  | [.str z] => if fits z.cps.toList.length then some (false, .tuple (z.cps.toList.map fun c => .str ⟨#[c]⟩)) else none
  | _ => none
def s_sum (ds : List D) : Option (Bool × D) := match ds with
  | [.list l] => (allO isInt l).map fun ns => (false, .int ns.sum)
  | _ => none
def s_min (ds : List D) : Option (Bool × D) := match ds with
  | [.int i, .int j] => some (false, .int (if j < i then j else i))
  | [.list l] => match allO isInt l with
    | some ns => (minL ns).map fun m => (false, .int m)
    | none => match l with
      | x :: xs => if alk l && noN l && l.all sc then some (false, PySem.W.minD x xs) else none
      | [] => none
  | _ => none
def s_max (ds : List D) : Option (Bool × D) := match ds with
  | [.int i, .int j] => some (false, .int (if j > i then j else i))
  | [.list l] => (allO isInt l).bind fun ns => (maxL ns).map fun m => (false, .int m)
  | _ => none
def s_int (ds : List D) : Option (Bool × D) := match ds with
  | [.int i] => some (false, .int i)
  | [.bool b] => some (false, .int (if b then 1 else 0))
  | [.str x] => (digit x).map fun i => (false, .int i)
  | _ => none
def s_str (ds : List D) : Option (Bool × D) := match ds with
  | [.int i] => if decide (i.natAbs < 2 ^ 1000) then some (false, .str (toString i)) else none
  | [.str x] => some (false, .str x)
  | _ => none
def s_any (ds : List D) : Option (Bool × D) := match ds with
  | [.list l] => (allO isBl l).map fun bs => (false, .bool (bs.any id))
  | _ => none
def s_all (ds : List D) : Option (Bool × D) := match ds with
  | [.list l] => (allO isBl l).map fun bs => (false, .bool (bs.all id))
  | _ => none
def s_sorted (ds : List D) : Option (Bool × D) := match ds with
  | [.list l] => match allO isInt l with
    | some ns => if ns.length < 64 then some (true, .list ((sortI ns).map .int)) else none
    | none => if alk l && srtb l && decide (PyData.depthAll l ≤ 8) && fits l.length then some (true, .list (sortD l)) else none
  | _ => none
/-- sorted(set(x)) -/
def semSet : D → Option D
  | .list l => (allO isInt l).bind fun ns => if ns.length < 63 then some (.list ((sortI (once ns)).map .int)) else none
  | _ => none
def semBi (f : Str) (ds : List D) : Option (Bool × D) :=
  if f = "len" then s_len ds
  else if f = "list" then s_list ds
  else if f = "tuple" then s_tuple ds
  else if f = "sum" then s_sum ds
  else if f = "min" then s_min ds
  else if f = "max" then s_max ds
  else if f = "int" then s_int ds
  else if f = "any" then s_any ds
  else if f = "all" then s_all ds
  else if f = "sorted" then s_sorted ds
  else if f = "str" then s_str ds
  else none
def semIsi (d : D) (T : Str) : Option Bool :=
  if T = "str" then some (match d with | .str _ => true | _ => false)
  else if T = "bool" then some (match d with | .bool _ => true | _ => false)
  else if T = "int" then some (match d with | .bool _ => true | .int _ => true | _ => false)
  else if T = "list" then some (match d with | .list _ => true | _ => false)
  else if T = "tuple" then some (match d with | .tuple _ => true | _ => false)
  else none
def m_join (o : D) (ds : List D) : Option (Bool × D) := match o, ds with
  | .str z, [.list l] => (allO isStr l).bind fun ys => if fits ((ys.map (·.length)).sum + ys.length * z.length) then some (false, .str ⟨(TL.joinL z.cps.toList (ys.map TL.tl)).toArray⟩) else none
  | _, _ => none
def m_startswith (o : D) (ds : List D) : Option (Bool × D) := match o, ds with
  | .str z, [.str y] => some (false, .bool (z.cps.toList.take y.length == y.cps.toList))
  | _, _ => none
def m_count (o : D) (ds : List D) : Option (Bool × D) := match o, ds with
  | .str z, [.str y] => some (false, .int (Txt.count z y))
  | _, _ => none
def semMt (o : D) (f : Str) (ds : List D) : Option (Bool × D) :=
  if f = "join" then m_join o ds
  else if f = "startswith" then m_startswith o ds
  else if f = "count" then m_count o ds
  else none

/-! ### the run -/
def lift (m : Bool) : Option (Bool × D) → R Rv
  | some (nw, d) => .ok (mk m nw d)
  | none => .bad
def liftB : Option Bool → R Rv
  | some b => .ok (.fr false (.bool b))
  | none => .bad
/-- what is put into another thing -/
def sto : Rv → R (Bool × D)
  | .fr m d => .ok (m && !imm d, d)
  | .ow m d => .ok (m && !imm d, d)
  | .bo _ _ => .bad
  | .mt _ _ => .bad
def anyM : List Rv → Bool
  | [] => false
  | r :: rs => r.m || anyM rs
def stos : List Rv → R (Bool × List D)
  | [] => .ok (false, [])
  | r :: rs => (sto r).bind fun p => (stos rs).bind fun q => .ok (p.1 || q.1, p.2 :: q.2)
def truth : Rv → R Bool
  | .fr _ (.bool b) => .ok b
  | _ => .bad
def isBo : Rv → Bool
  | .bo _ _ => true
  | _ => false
/-- a call's answer: what is lent to it isn't to be found in it -/
def ans (lent : Bool) : Rv → R Rv
  | .fr m d => if lent && m && !imm d then .bad else .ok (.fr (m && !imm d) d)
  | .ow m (.list ds) => if lent && m && !imms ds then .bad else .ok (.ow (m && !imms ds) (.list ds))
  | .ow m d => if lent && m then .bad else .ok (.ow m d)
  | .bo _ _ => .bad
  | .mt _ _ => .bad
def getSl (env : List Sl) (i : Nat) : R Rv :=
  match env[i]? with
  | some (.fr m d) => .ok (.fr m d)
  | some (.ow m d) => .ok (.bo m d)
  | some (.kn _ m d) => .ok (.fr m d)
  | some (.ko _ m d) => .ok (.bo m d)
  | _ => .bad
def setAll (m : Bool) : List Nat → List D → List Sl → R (List Sl)
  | [], [], env => .ok env
  | i :: is, d :: ds, env => if i < env.length then setAll m is ds (env.set i (.fr m d)) else .bad
  | _, _, _ => .bad
def bindG (g : MG) (m : Bool) (d : D) (env : List Sl) : R (List Sl) :=
  match g with
  | .n i => if i < env.length then .ok (env.set i (.fr m d)) else .bad
  | .t l => match d with
    | .tuple ds => setAll m l ds env
    | _ => .bad
/-- over items: what is told of each (none: left out) -/
def noErr {α : Type} : R α → R α
  | .ok a => .ok a
  | _ => .bad
def lcR (f : D → R (Option (Bool × D))) : List D → R (Bool × List D)
  | [] => .ok (false, [])
  | d :: ds => (f d).bind fun o => (lcR f ds).bind fun q => match o with
    | some p => .ok (p.1 || q.1, p.2 :: q.2)
    | none => .ok q
def rngD (a : Int) (n : Nat) : List D := (List.range n).map fun (i : Nat) => .int (a + (i : Int))
def rngC (a c : Int) (n : Nat) : List D := (List.range n).map fun (i : Nat) => .int (a + (i : Int) * c)
def sm (i : Int) : Bool := decide (-(2 ^ 62) ≤ i) && decide (i < 2 ^ 62)
def itemsOf : D → Option (List D)
  | .list ds => some ds
  | .tuple ds => some ds
  | .str z => some (z.cps.toList.map fun c => .str ⟨#[c]⟩)
  | _ => none
def enumD (k : Nat) : List D → List D
  | [] => []
  | d :: ds => .tuple [.int k, d] :: enumD (k + 1) ds
abbrev FT := Str → Option (Nat × (List D → R Rv))
/-- a key, an int -/
def keyR : R Rv → R Int
  | .ok (.fr _ (.int k)) => .ok k
  | _ => .bad
def keysR (g : List D → R Rv) : List D → R (List Int)
  | [] => .ok []
  | d :: ds => (keyR (g [d])).bind fun k => (keysR g ds).bind fun ks => .ok (k :: ks)
mutual
def evE (Γ : FT) (env : List Sl) : ME → R Rv
  | .v i => getSl env i
  | .kn => .ok (.fr false .none)
  | .kb b => .ok (.fr false (.bool b))
  | .ki i => .ok (.fr false (.int i))
  | .ks s => .ok (.fr false (.str s))
  | .lst es => (evEs Γ env es).bind fun rs => (stos rs).bind fun p => if fits p.2.length then .ok (.ow p.1 (.list p.2)) else .bad
  | .tup es => (evEs Γ env es).bind fun rs => (stos rs).bind fun p => if fits p.2.length then .ok (.fr p.1 (.tuple p.2)) else .bad
  | .dK0 => .ok (.ow false (.dict []))
  | .dT0 => .ok (.ow false (.dict [(.none, .none)]))
  | .bin op a b => (evE Γ env a).bind fun x => (evE Γ env b).bind fun y => lift (x.m || y.m) (semBin op x.d y.d)
  | .neg a => (evE Γ env a).bind fun x => match x.d with
    | .int i => .ok (.fr false (.int (-i)))
    | _ => .bad
  | .cmp op a b => (evE Γ env a).bind fun x => (evE Γ env b).bind fun y => liftB (semCmp op x.d y.d)
  | .chn op op2 a b c => (evE Γ env a).bind fun x => (evE Γ env b).bind fun y => match semCmp op x.d y.d with
    | some true => (evE Γ env c).bind fun z => liftB (semCmp op2 y.d z.d)
    | some false => .ok (.fr false (.bool false))
    | none => .bad
  | .bop con es => (evB Γ env con es).bind fun b => .ok (.fr false (.bool b))
  | .not_ a => (evE Γ env a).bind fun x => (truth x).bind fun t => .ok (.fr false (.bool (!t)))
  | .ite c a b => (evE Γ env c).bind fun x => (truth x).bind fun t => if t then evE Γ env a else evE Γ env b
  | .ix a i => (evE Γ env a).bind fun x => (evE Γ env i).bind fun y => lift x.m ((semIx x.d y.d).map fun d => (false, d))
  | .sl a lo hi => (evE Γ env a).bind fun x => (evO Γ env lo).bind fun l => (evO Γ env hi).bind fun h => lift x.m (semSl x.d l h)
  | .bi f es => (evEs Γ env es).bind fun rs => lift (anyM rs) (semBi f (rs.map Rv.d))
  | .isi a T => (evE Γ env a).bind fun x => liftB (semIsi x.d T)
  | .mt o f es => (evE Γ env o).bind fun x => if (isStr x.d).isSome then (evEs Γ env es).bind fun rs => lift (x.m || anyM rs) (semMt x.d f (rs.map Rv.d)) else .bad
  | .call f es => match Γ f with
    | some (n, g) => (evEs Γ env es).bind fun rs => if rs.length = n then (g (rs.map Rv.d)).bind (ans (rs.any isBo)) else .bad
    | none => .bad
  | .lc g it c elt => (evI Γ env it).bind fun p => (lcR (fun d => noErr ((bindG g p.1 d env).bind fun env' => (evC Γ env' c).bind fun t => if t then ((evE Γ env' elt).bind sto).bind (fun q => .ok (some q)) else .ok none)) p.2).bind fun q =>
      if fits p.2.length then .ok (.ow q.1 (.list q.2)) else .bad
  | .lr a b => (evO Γ env a).bind fun x => (evO Γ env b).bind fun y => match x, y with
    | some n, none => if sm n && decide (n.toNat ≤ 2 ^ 24) then .ok (.ow false (.list (rngD 0 n.toNat))) else .bad
    | some i, some j => if sm i && sm j && decide ((j - i).toNat ≤ 2 ^ 24) then .ok (.ow false (.list (rngD i (j - i).toNat))) else .bad
    | _, _ => .bad
  | .rvl a => (evE Γ env a).bind fun x => match x.d with
    | .list ds => .ok (.ow x.m (.list ds.reverse))
    | _ => .bad
  | .rep a y z => (evE Γ env a).bind fun x => match x.d with
    | .str t => if t.length + (t.length + 1) * z.length ≤ 16777216 then .ok (.fr false (.str (Txt.replace t y z))) else .bad
    | _ => .bad
  | .dgt i k d => (getSl env i).bind fun x => match x.d with
    | .dict es => (evE Γ env k).bind fun y => (evE Γ env d).bind fun z => match dget es y.d with
      | some (some v) => .ok (mk x.m false v)
      | some none => if isBo z then .bad else .ok z
      | none => .bad
    | _ => .bad
  | .dix a k => (evE Γ env a).bind fun x => match x.d with
    | .dict es => (evE Γ env k).bind fun y => match dget es y.d with
      | some (some v) => .ok (mk x.m false v)
      | _ => .bad
    | _ => .bad
  | .sset a => (evE Γ env a).bind fun x => match semSet x.d with
    | some d => .ok (.ow false d)
    | none => .bad
  | .lix a b => (evE Γ env a).bind fun x => match x.d with
    | .list ds => (evE Γ env b).bind fun y => match semLix (.list ds) y.d with
      | some j => .ok (.fr false (.int j))
      | none => .bad
    | _ => .bad
  | .srk a f => match Γ f with
    | some (n, g) => if n = 1 then (evE Γ env a).bind fun x => match x.d with
      | .list ds => (keysR g ds).bind fun ks => .ok (.ow x.m (.list ((srtK (ks.zip ds)).map (·.2))))
      | _ => .bad else .bad
    | none => .bad
def evEs (Γ : FT) (env : List Sl) : MEs → R (List Rv)
  | .nil => .ok []
  | .cons e es => (evE Γ env e).bind fun x => (evEs Γ env es).bind fun xs => .ok (x :: xs)
def evB (Γ : FT) (env : List Sl) (con : Bool) : MEs → R Bool
  | .nil => .bad
  | .cons e .nil => (evE Γ env e).bind truth
  | .cons e es => ((evE Γ env e).bind truth).bind fun t => if t = con then evB Γ env con es else .ok t
def evO (Γ : FT) (env : List Sl) : MO → R (Option Int)
  | .no => .ok none
  | .so e => (evE Γ env e).bind fun x => match x.d with
    | .int i => .ok (some i)
    | _ => .bad
def evC (Γ : FT) (env : List Sl) : MO → R Bool
  | .no => .ok true
  | .so e => (evE Γ env e).bind truth
def evI (Γ : FT) (env : List Sl) : MI → R (Bool × List D)
  | .e a => (evE Γ env a).bind fun x => if isBo x then .bad else match itemsOf x.d with
    | some ds => .ok (x.m, ds)
    | none => .bad
  | .r1 a => (evE Γ env a).bind fun x => match x.d with
    | .int n => if sm n then .ok (false, rngD 0 n.toNat) else .bad
    | _ => .bad
  | .r2 a b => (evE Γ env a).bind fun x => (evE Γ env b).bind fun y => match x.d, y.d with
    | .int i, .int j => if sm i && sm j then .ok (false, rngD i (j - i).toNat) else .bad
    | _, _ => .bad
  | .r3 a b c => (evE Γ env a).bind fun x => (evE Γ env b).bind fun y => (evE Γ env c).bind fun z => match x.d, y.d, z.d with
    | .int i, .int j, .int k => if sm i && sm j && decide (k = -1) then .ok (false, rngC i (-1) (i - j).toNat) else .bad
    | _, _, _ => .bad
  | .zip a b => (evE Γ env a).bind fun x => (evE Γ env b).bind fun y => if isBo x || isBo y then .bad else match itemsOf x.d, itemsOf y.d with
    | some ds, some es => .ok (x.m || y.m, List.zipWith (fun d e => .tuple [d, e]) ds es)
    | _, _ => .bad
  | .zip3 a b c => (evE Γ env a).bind fun x => (evE Γ env b).bind fun y => (evE Γ env c).bind fun z => if isBo x || isBo y || isBo z then .bad else match itemsOf x.d, itemsOf y.d, itemsOf z.d with
    | some ds, some es, some fs => .ok (x.m || y.m || z.m, List.zipWith (fun d p => match p with | (e, f) => .tuple [d, e, f]) ds (es.zip fs))
    | _, _, _ => .bad
  | .enum a => (evE Γ env a).bind fun x => if isBo x then .bad else match x.d with
    | .list ds => .ok (x.m, enumD 0 ds)
    | .str z => .ok (x.m, enumD 0 (z.cps.toList.map fun c => .str ⟨#[c]⟩))
    | _ => .bad
  | .rev a => (evE Γ env a).bind fun x => if isBo x then .bad else match x.d with
    | .list ds => .ok (x.m, ds.reverse)
    | _ => .bad
end

inductive Fl where
  | bad
  | err (x : Str)
  | next (env : List Sl)
  | ret (r : Rv)
  | brk (env : List Sl)
  | cnt (env : List Sl)
def Fl.of {α : Type} (r : R α) (f : α → Fl) : Fl := match r with
  | .bad => .bad
  | .err x => .err x
  | .ok a => f a
def Fl.then (a : Fl) (f : List Sl → Fl) : Fl := match a with
  | .next env => f env
  | a => a
def setSl (env : List Sl) (i : Nat) (s : Sl) : Fl := if i < env.length then .next (env.set i s) else .bad
def put1 (own : Bool) (i : Nat) (env : List Sl) : Rv → Fl
  | .fr m d => if own then .bad else setSl env i (.fr m d)
  | .ow m d => if own then setSl env i (.ow m d) else setSl env i (.fr m d)
  | .bo _ _ => .bad
  | .mt _ _ => .bad
/-- a loop over items -/
def forR (f : D → List Sl → Fl) : List D → List Sl → Fl
  | [], env => .next env
  | d :: ds, env => match f d env with
    | .next e => forR f ds e
    | .cnt e => forR f ds e
    | .brk e => .next e
    | a => a
def whlR (c : List Sl → R Bool) (f : List Sl → Fl) : Nat → List Sl → Fl
  | 0, _ => .bad
  | n + 1, env => .of (c env) fun t => if t then match f env with
    | .next e => whlR c f n e
    | .cnt e => whlR c f n e
    | .brk e => .next e
    | a => a else .next env
/-- texts given to slots -/
def setZ : List (Nat × Str) → List Sl → List Sl
  | [], env => env
  | p :: l, env => setZ l (env.set p.1 (.fr false (.str p.2)))
def callR (Γ : FT) (env : List Sl) (f : Str) (es : MEs) : R Rv := match Γ f with
  | some (n, g) => (noErr (evEs Γ env es)).bind fun rs => if rs.length = n then (g (rs.map Rv.d)).bind (ans (rs.any isBo)) else .bad
  | none => .bad
def evT (Γ : FT) : TB → List Sl → Fl
  | .ex f es, env => .of (callR Γ env f es) fun _ => .next env
  | .st i own f es, env => .of (callR Γ env f es) (put1 own i env)
  | .if_ c a b, env => .of (noErr ((evE Γ env c).bind truth)) fun t => if t then evT Γ a env else evT Γ b env
def tryR (tb : List (Str × List (Nat × Str))) (n : Nat) (env : List Sl) (f : Fl) : Fl := match f with
  | .next e => .next e
  | .err x => match tb.lookup x with
    | some l => if n < env.length then .next ((setZ l (env.set n .no)).set n .no) else .bad
    | none => .bad
  | _ => .bad
/-- what a def has changed is put back -/
def nth? : MEs → Nat → Option ME
  | .cons e _, 0 => some e
  | .cons _ es, n + 1 => nth? es n
  | .nil, _ => none
def putBack (es : MEs) : List Nat → List (Bool × D) → List Sl → Fl
  | [], [], env => .next env
  | p :: mask, (m', d') :: news, env => match nth? es p with
    | some (.v j) => match ownAt env[j]? with
      | some (o, m, _) => putBack es mask news (env.set j (reow o (m || m') d'))
      | none => .bad
    | _ => .bad
  | _, _, _ => .bad
/-- what is not handed in to be changed stands still -/
def stillAt (mask : List Nat) : Nat → List Rv → Bool
  | _, [] => true
  | k, r :: rs => (decide (k ∈ mask) || !isBo r) && stillAt mask (k + 1) rs
/-- no slot twice -/
def slotsOf (es : MEs) : List Nat → List Nat
  | [] => []
  | p :: mask => match nth? es p with
    | some (.v j) => j :: slotsOf es mask
    | _ => slotsOf es mask
mutual
def evS (Γ : FT) (fuel : Nat) : MS → List Sl → Fl
  | .skip, env => .next env
  | .set i e own, env => .of (evE Γ env e) (put1 own i env)
  | .unp l e, env => .of (evE Γ env e) fun x => if isBo x then .bad else match x.d with
    | .tuple ds => .of (setAll x.m l ds env) .next
    | .list ds => .of (setAll x.m l ds env) .next
    | _ => .bad
  | .par i j a b, env => .of (evEs Γ env (.cons a (.cons b .nil))) fun rs => .of (stos rs) fun p => .of (setAll p.1 [i, j] p.2 env) .next
  | .ret e, env => .of (evE Γ env e) fun x => if isBo x then .bad else .ret x
  | .retN, _ => .ret (.fr false .none)
  | .reto i, env => match env[i]? with
    | some (.ow m d) => .ret (.ow m d)
    | _ => .bad
  | .ife c a b, env => .of ((evE Γ env c).bind truth) fun t => if t then evSs Γ fuel a env else evSs Γ fuel b env
  | .for_ g it b, env => .of (evI Γ env it) fun p => forR (fun d e => .of (bindG g p.1 d e) fun e' => evSs Γ fuel b e') p.2 env
  | .whl c b, env => whlR (fun e => (evE Γ e c).bind truth) (fun e => evSs Γ fuel b e) fuel env
  | .exp e, env => .of (evE Γ env e) fun _ => .next env
  | .app i e, env => match ownAt env[i]? with
    | some (o, m, .list ds) => .of (evE Γ env e) fun x => .of (sto x) fun p => if decide (ds.length < sizeLine) then .next (env.set i (reow o (m || p.1) (.list (ds ++ [p.2])))) else .bad
    | _ => .bad
  | .ext i e, env => match ownAt env[i]? with
    | some (o, m, .list ds) => .of (evE Γ env e) fun x => match x.d with
      | .list es => if fits (ds.length + es.length) then .next (env.set i (reow o (m || x.m) (.list (ds ++ es)))) else .bad
      | _ => .bad
    | _ => .bad
  | .put i k e, env => .of (evE Γ env e) fun x => .of (sto x) fun p => match ownAt env[i]? with
    | some (o, m, .list ds) => .of (evE Γ env k) fun y => match y.d with
      | .int n => match ixN ds.length n with
        | some j => .next (env.set i (reow o (m || p.1) (.list (ds.set j p.2))))
        | none => .bad
      | _ => .bad
    | _ => .bad
  | .dput i k e, env => .of (evE Γ env e) fun x => .of (sto x) fun p => match ownAt env[i]? with
    | some (o, m, .dict es) => .of (evE Γ env k) fun y => match dputD es y.d p.2 with
      | some es' => if decide (es.length < sizeLine) then .next (env.set i (reow o (m || p.1) (.dict es'))) else .bad
      | none => .bad
    | _ => .bad
  | .ins i k e, env => match ownAt env[i]? with
    | some (o, m, .list ds) => .of (evE Γ env k) fun y => match y.d with
      | .int n => .of (evE Γ env e) fun x => .of (sto x) fun p => if decide (ds.length < sizeLine) && decide (0 ≤ n) && decide (n < 2 ^ 63) then .next (env.set i (reow o (m || p.1) (.list (ds.take n.toNat ++ [p.2] ++ ds.drop n.toNat)))) else .bad
      | _ => .bad
    | _ => .bad
  | .popS x i, env => match ownAt env[i]? with
    | some (o, m, .list ds) => match ds[ds.length - 1]? with
      | some d => if i = x then .bad else setSl (env.set i (reow o m (.list ds.dropLast))) x (.fr m d)
      | none => .bad
    | _ => .bad
  | .popI x i k, env => match ownAt env[i]? with
    | some (o, m, .list ds) => .of (evE Γ env k) fun y => match y.d with
      | .int n => if sm n then match ixN ds.length n with
        | some j => match ds[j]? with
          | some d => if i = x then .bad else setSl (env.set i (reow o m (.list (ds.eraseIdx j)))) x (.fr m d)
          | none => .bad
        | none => .bad else .bad
      | _ => .bad
    | _ => .bad
  | .appPop i j k, env => match ownAt env[i]?, ownAt env[j]? with
    | some (o, m, .list ds), some (o', m', .list es) => .of (evE Γ env k) fun y => match y.d with
      | .int n => if sm n then match ixN es.length n with
        | some h => match es[h]? with
          | some d => if i = j then .bad else if decide (ds.length < sizeLine) then .next ((env.set j (reow o' m' (.list (es.eraseIdx h)))).set i (reow o (m || m') (.list (ds ++ [d])))) else .bad
          | none => .bad
        | none => .bad else .bad
      | _ => .bad
    | _, _ => .bad
  | .appTPop i e j k, env => match ownAt env[i]?, ownAt env[j]? with
    | some (o, m, .list ds), some (o', m', .list es) => .of (evE Γ env e) fun x => .of (sto x) fun p => .of (evE Γ env k) fun y => match y.d with
      | .int n => if sm n then match ixN es.length n with
        | some h => match es[h]? with
          | some d => if i = j then .bad else if decide (ds.length < sizeLine) then .next ((env.set j (reow o' m' (.list (es.eraseIdx h)))).set i (reow o (m || (p.1 || m')) (.list (ds ++ [.tuple [p.2, d]])))) else .bad
          | none => .bad
        | none => .bad else .bad
      | _ => .bad
    | _, _ => .bad
  | .popX i k, env => match ownAt env[i]? with
    | some (o, m, .list ds) => .of (evE Γ env k) fun y => match y.d with
      | .int n => if sm n then match ixN ds.length n with
        | some j => .next (env.set i (reow o m (.list (ds.eraseIdx j))))
        | none => .bad else .bad
      | _ => .bad
    | _ => .bad
  | .mc f es, env => match Γ f with
    | some (n, g) => .of (evEs Γ env es) fun rs => if rs.length = n then .of (g (rs.map Rv.d)) fun r => match r with
      | .mt mask news => if stillAt mask 0 rs && decide (slotsOf es mask).Nodup then putBack es mask news env else .bad
      | _ => .bad else .bad
    | none => .bad
  | .raise_ x _, _ => .err x
  | .mov i j, env => match env[j]? with
    | some (.ow m d) => if i < env.length ∧ i ≠ j then .next ((env.set i (.ow m d)).set j .no) else .bad
    | _ => .bad
  | .try_ b tb n _, env => tryR tb n env (evT Γ b env)
  | .brk, env => .brk env
  | .cnt, env => .cnt env
  | .never, _ => .bad
def evSs (Γ : FT) (fuel : Nat) : MSs → List Sl → Fl
  | .nil, env => .next env
  | .cons s r, env => (evS Γ fuel s env).then fun e => evSs Γ fuel r e
  | .frz i r, env => match env[i]? with
    | some (.ow m d) => evSs Γ fuel r (env.set i (.fr m d))
    | _ => .bad
end
/-- a def: how many slots, its body -/
structure MF where
  slots : Nat
  body : MSs
def startE (n : Nat) (ds : List D) : List Sl := ds.map (fun d => .fr (!imm d) d) ++ List.replicate (n - ds.length) .no
def runF (Γ : FT) (fuel : Nat) (f : MF) (ds : List D) : R Rv :=
  match evSs Γ fuel f.body (startE f.slots ds) with
  | .bad => .bad
  | .err x => .err x
  | .next _ => .ok (.fr false .none)
  | .ret r => .ok r
  | .brk _ => .bad
  | .cnt _ => .bad
end En

set_option Elab.async false
set_option linter.all false
set_option maxRecDepth 100000
set_option maxHeartbeats 4000000
namespace En
open PySem PySem.Spec PyProof.Rows L2

theorem zn_dt {H : Hp} {L : AS} {z : V} {d : D} (h : Dt H L z d) : Zn H L H z false d := ⟨Same.refl _, by simpa using h⟩
theorem zn_new {H : Hp} {L : AS} {p : Addr} {xs : List V} {ds : List D} (hp : H p = none) (h : Dts H L xs ds) : Zn H L (upd H p (.lst xs)) (.ref p) true (.list ds) :=
  ⟨same_new hp, by rw [if_pos rfl]; exact ⟨p, xs, ds, rfl, hp, rfl, upd_same, dts_new hp h⟩⟩
theorem zn_tup {H : Hp} {L : AS} {p : Addr} {xs : List V} {ds : List D} (hp : H p = none) (h : Dts H L xs ds) : Zn H L (upd H p (.tup xs)) (.ref p) false (.tuple ds) :=
  ⟨same_new hp, by rw [if_neg (by simp)]; exact .tup upd_same (sm_dts (same_new hp) h)⟩
theorem Dts.flat {H : Hp} {L : AS} {xs : List V} {ds : List D} (h : Dts H L xs ds) : ∀ k : Nat, Dts H L (List.replicate k xs).flatten (List.replicate k ds).flatten
  | 0 => by simpa using Dts.nil
  | k + 1 => by
    rw [List.replicate_succ, List.replicate_succ, List.flatten_cons, List.flatten_cons]
    exact h.append (h.flat k)
theorem fits_le {n : Nat} (h : fits n = true) : n ≤ sizeLine := of_decide_eq_true h
theorem Cn.isc {H : Hp} {L : AS} {x : V} {d : D} {v : V} (h : Cn H L x d) (e : scV d = some v) : x = v := by
  cases h <;> simp [scV] at e <;> exact e
theorem Cn.dt_sc {H : Hp} {L L' : AS} {x : V} {d : D} (h : Cn H L x d) (e : sc d = true) : Dt H L' x d := by
  cases h <;> simp [sc] at e
  · exact .non
  · exact .bl _
  · exact .int _
  · exact .str _

section
variable {X : Cx} {pins : List (Addr × Obj)} {σ : L2.St} {H : Hp} {s : Shared}
theorem lstR {l : Addr} {xs : List V} (I : Inv X pins σ H s) (hH : Rd H l (.lst xs)) : xs.length ≤ sizeLine ∧ ∃ (its : List Value) (n : Nat), Vals xs its ∧ xs.length = its.length ∧ s.heap.get? l = some { cls := .type "list", data := .seq its.toArray n } := by
  obtain ⟨z, its, n, r, e⟩ := hH.ok I.hok
  exact ⟨z, its, n, r, r.length, e⟩
end
section
variable {X : Cx}
def rCatR : R2 := fun x y H Q => ∃ l b xs zs, x = .ref l ∧ y = .ref b ∧ Rd H l (.lst xs) ∧ Rd H b (.lst zs) ∧ xs.length + zs.length ≤ sizeLine ∧ ∀ p, H p = none → Q (.ref p) (upd H p (.lst (xs ++ zs)))
theorem op_catR : OpR X (binaryOp .Add) rCatR := by
  intro pins s σ H x y v u Q I rx ry h
  obtain ⟨l, b, xs, zs, rfl, rfl, hH, hB, hz, q⟩ := h
  cases rx
  cases ry
  obtain ⟨z, its, n, r, hl, e⟩ := lstR I hH
  obtain ⟨z2, its2, n2, r2, hl2, e2⟩ := lstR I hB
  refine PySem.P.add_list e e2 ?_ (by rw [List.size_toArray, List.size_toArray]; omega)
  have ea : its.toArray ++ its2.toArray = (its ++ its2).toArray := by simp
  rw [ea]
  exact ⟨.ref _, _, I.lnew (t' := s.toks) (r.append r2) (by rw [List.length_append]; omega), rfl, q _ I.fresh⟩
def rRepR : R2 := fun x y H Q => ∃ l k xs, x = .ref l ∧ y = .int k ∧ Rd H l (.lst xs) ∧ -(2 ^ 63) ≤ k ∧ k < 2 ^ 63 ∧ xs.length * k.toNat ≤ sizeLine ∧
  ∀ p, H p = none → Q (.ref p) (upd H p (.lst (List.replicate k.toNat xs).flatten))
theorem op_repR : OpR X (binaryOp .Mult) rRepR := by
  intro pins s σ H x y v u Q I rx ry h
  obtain ⟨l, k, xs, rfl, rfl, hH, h1, h2, hz, q⟩ := h
  cases rx
  obtain ⟨t, rfl⟩ := ry
  obtain ⟨z, its, n, r, hl, e⟩ := lstR I hH
  have hlen : its.toArray.size * k.toNat ≤ sizeLine := by rw [List.size_toArray, ← hl]; exact hz
  have hcap : ¬ its.toArray.size * k.toNat > (2 ^ 63 - 1) / 8 := by
    have : (sizeLine : Nat) ≤ (2 ^ 63 - 1) / 8 := by decide
    omega
  have hfit : ¬ (!Builtin.List.listFitsIndex k) = true := by
    rw [fitsIndex_both h1 h2]
    exact Bool.false_ne_true
  have hlong : ¬ Builtin.List.listTooLong (its.toArray.size * k.toNat) = true := by
    rw [notLongL hlen]
    exact Bool.false_ne_true
  have hnew : List.foldl (fun x1 x2 => x1 ++ x2) #[] (List.replicate (if its.toArray.isEmpty = true then 0 else k.toNat) its.toArray) = (List.replicate k.toNat its).flatten.toArray := by
    have f0 : ∀ m : Nat, List.foldl (fun x1 x2 => x1 ++ x2) #[] (List.replicate m its.toArray) = (List.replicate m its).flatten.toArray := fun m => by
      have := foldl_rep its m []
      rw [List.nil_append] at this
      exact this
    rw [f0]
    cases its with
    | nil => simp
    | cons a r' => rw [if_neg (by simp)]
  refine wpAny_binaryOp_repeat_ref (T := "list") (U := "int") (by decide) ⟨_, e, rfl⟩ (fun s' => typeIs_int s' k t) noFill_list_mul F.fills_int_mul F.slot_int_rmul repeat_list F.slot_int_index.lookup
    (call_meets F.slot_int_rmul (typeIs_int s k t) F.entry_int_rmul (F.args_int_rmul_2 _ _) (int___rmul___int_list k t l its.toArray n)
      ⟨e, rfl, ⟨_, e, rfl⟩, call_meets F.slot_list_mul ⟨_, e, rfl⟩ F.entry_list_mul (F.args_list_mul_2 _ _) (AutoListH.list___mul___list_int_3 l its.toArray n k t hfit hcap hlong) ⟨e, ?_⟩⟩)
  rw [hnew]
  exact ⟨.ref _, _, I.lnew (t' := s.toks) (r.rep k.toNat) (by rw [PyProof.Rows.lm_len_rep_flat, Nat.mul_comm]; exact hz), rfl, q _ I.fresh⟩
theorem foldl_arr {α : Type} (a : Array α) : ∀ (k : Nat) (acc : Array α), (List.foldl (· ++ ·) acc (List.replicate k a)).toList = acc.toList ++ (List.replicate k a.toList).flatten
  | 0, acc => by simp
  | k + 1, acc => by
    rw [List.replicate_succ, List.foldl_cons, foldl_arr a k, List.replicate_succ, List.flatten_cons, Array.toList_append, List.append_assoc]
def rMulS : R2 := fun x y H Q => ∃ z k, x = .str z ∧ y = .int k ∧ -(2 ^ 63) ≤ k ∧ k < 2 ^ 63 ∧ z.length * k.toNat ≤ sizeLine ∧ Q (.str ⟨((List.replicate k.toNat z.cps.toList).flatten).toArray⟩) H
theorem op_mulS : OpR X (binaryOp .Mult) rMulS := by
  intro pins s σ H x y v u Q I rx ry h
  obtain ⟨z, k, rfl, rfl, h1, h2, hz, q⟩ := h
  obtain ⟨t, rfl⟩ := rx
  obtain ⟨t', rfl⟩ := ry
  have e : (sizeLine : Nat) = 16777216 := sizeLine_eq
  refine PySem.P.mul_str ?_ (fun a b => ?_) (fun a b => ?_) ?_
  · have a1 : ¬ k < -(2 ^ 63) := by omega
    have a2 : ¬ k ≥ 2 ^ 63 := by omega
    rw [decide_eq_false a1, decide_eq_false a2]
    rfl
  · have hk : 0 < k := by omega
    have hn : ((k.toNat : Nat) : Int) = k := Int.toNat_of_nonneg (by omega)
    have hm : (z.length : Int) * k ≤ 16777216 := by
      rw [← hn]
      have : ((z.length * k.toNat : Nat) : Int) ≤ (16777216 : Nat) := by
        rw [← e]
        exact Int.ofNat_le.mpr hz
      simpa using this
    intro hc
    have h3 : ((2 ^ 63 - 1 : Int) / k + 1) * k > 2 ^ 63 - 1 := by
      have := Int.lt_ediv_add_one_mul_self (2 ^ 63 - 1) hk
      exact this
    have h4 : ((2 ^ 63 - 1 : Int) / k + 1) * k ≤ (z.length : Int) * k := Int.mul_le_mul_of_nonneg_right (by omega) (by omega)
    omega
  · unfold PySem.Builtin.Str.tooLong
    rw [e] at hz
    first
      | exact decide_eq_false (by omega)
      | (simp; omega)
  · by_cases hk : k < 1
    · rw [if_pos hk]
      have e0 : k.toNat = 0 := by omega
      rw [e0] at q
      refine ⟨by decide, .str _, H, I.tok _, ⟨_, rfl⟩, ?_⟩
      exact q
    · rw [if_neg hk]
      by_cases hc : (k == 1 || z.length == 0) = true
      · rw [if_pos hc]
        have ez : (⟨((List.replicate k.toNat z.cps.toList).flatten).toArray⟩ : Str) = z := by
          simp only [Bool.or_eq_true, beq_iff_eq] at hc
          rcases hc with hc | hc
          · subst hc
            simp
          · have : z.cps.toList = [] := by
              have h0 : z.cps.size = 0 := hc
              simpa using h0
            rw [this]
            have hzz : z = ⟨#[]⟩ := by
              cases z with
              | mk c =>
                have : c = #[] := by simpa using this
                rw [this]
            rw [hzz]
            simp
        rw [ez] at q
        exact ⟨.str _, H, I, ⟨_, rfl⟩, q⟩
      · rw [if_neg hc]
        have ez : (⟨((List.replicate k.toNat z.cps.toList).flatten).toArray⟩ : Str) = ⟨(List.replicate k.toNat z.cps).foldl (· ++ ·) #[]⟩ := by
          congr 1
          apply Array.toList_inj.mp
          rw [foldl_arr]
          simp
        rw [ez] at q
        refine ⟨?_, .str _, H, I.tok _, ⟨_, rfl⟩, q⟩
        show _ ≤ _
        have : (⟨(List.replicate k.toNat z.cps).foldl (· ++ ·) #[]⟩ : Str).length = z.length * k.toNat := by
          rw [← ez]
          show ((List.replicate k.toNat z.cps.toList).flatten).toArray.size = _
          simp [Str.length, Nat.mul_comm]
        rw [this]
        omega

/-- a binary operator on data -/
def rB (f : D → D → Option (Bool × D)) : R2 := fun x y H Q => ∃ L d e nw z, Cn H L x d ∧ Cn H L y e ∧ f d e = some (nw, z) ∧ ∀ v H', Zn H L H' v nw z → Q v H'
theorem bin_ok (op : Operator) : OpR X (binaryOp op) (rB (semBin op)) := by
  intro pins s σ H x y v u Q I rx ry h
  obtain ⟨L, d, e, nw, z, cx, cy, hf, q⟩ := h
  cases op with
  | Add =>
    cases cx <;> cases cy <;> simp only [semBin, reduceCtorEq] at hf
    · cases hf
      exact op_add pins s σ H _ _ _ _ _ I rx ry ⟨_, _, rfl, rfl, q _ _ (zn_dt (.int _))⟩
    · split at hf
      · rename_i hz
        cases hf
        exact op_add_str pins s σ H _ _ _ _ _ I rx ry ⟨_, _, rfl, rfl, fits_le hz, q _ _ (zn_dt (.str _))⟩
      · exact nomatch hf
    · rename_i r1 s1 _ _ _ r2 s2
      split at hf
      · rename_i hz
        cases hf
        exact op_catR pins s σ H _ _ _ _ _ I rx ry ⟨_, _, _, _, rfl, rfl, r1, r2, by rw [s1.length, s2.length]; exact fits_le hz, fun p hp => q _ _ (zn_new hp (s1.append s2))⟩
      · exact nomatch hf
    · rename_i r1 s1 _ _ _ r2 s2
      split at hf
      · rename_i hz
        cases hf
        refine op_catA pins s σ H _ _ _ _ _ I rx ry ⟨_, _, _, _, rfl, rfl, .inl (.inl r1), .inl (.inl r2), by rw [s1.length, s2.length]; exact fits_le hz, fun e0 => ?_, fun _ e0 => ?_, fun _ _ p hp => q _ _ (zn_tup hp (s1.append s2))⟩
        · subst e0
          cases s1
          exact q _ _ (zn_dt (.tup r2 s2))
        · subst e0
          cases s2
          rw [List.append_nil] at q
          exact q _ _ (zn_dt (.tup r1 s1))
      · exact nomatch hf
  | Sub =>
    cases cx <;> cases cy <;> simp only [semBin, reduceCtorEq] at hf
    cases hf
    exact op_sub pins s σ H _ _ _ _ _ I rx ry ⟨_, _, rfl, rfl, q _ _ (zn_dt (.int _))⟩
  | Mult =>
    cases cx <;> cases cy <;> simp only [semBin, reduceCtorEq] at hf
    · split at hf
      · rename_i hz
        cases hf
        simp only [Bool.or_eq_true, Bool.and_eq_true, decide_eq_true_eq] at hz
        exact op_mul pins s σ H _ _ _ _ _ I rx ry ⟨_, _, rfl, rfl, hz, q _ _ (zn_dt (.int _))⟩
      · exact nomatch hf
    · split at hf
      · rename_i hz
        cases hf
        simp only [Bool.and_eq_true, decide_eq_true_eq] at hz
        exact op_mulS pins s σ H _ _ _ _ _ I rx ry ⟨_, _, rfl, rfl, hz.1.1, hz.1.2, fits_le hz.2, q _ _ (zn_dt (.str _))⟩
      · exact nomatch hf
    · rename_i r1 s1 _
      split at hf
      · rename_i hz
        cases hf
        simp only [Bool.and_eq_true, decide_eq_true_eq] at hz
        exact op_repR pins s σ H _ _ _ _ _ I rx ry ⟨_, _, _, rfl, rfl, r1, hz.1.1, hz.1.2, by rw [s1.length]; exact fits_le hz.2, fun p hp => q _ _ (zn_new hp (s1.flat _))⟩
      · exact nomatch hf
  | FloorDiv =>
    cases cx <;> cases cy <;> simp only [semBin, reduceCtorEq] at hf
    split at hf
    · rename_i hz
      cases hf
      simp only [Bool.and_eq_true, decide_eq_true_eq] at hz
      exact op_fdiv pins s σ H _ _ _ _ _ I rx ry ⟨_, _, rfl, rfl, hz, q _ _ (zn_dt (.int _))⟩
    · exact nomatch hf
  | Mod =>
    cases cx <;> cases cy <;> simp only [semBin, reduceCtorEq] at hf
    split at hf
    · rename_i hz
      cases hf
      simp only [decide_eq_true_eq] at hz
      exact op_mod pins s σ H _ _ _ _ _ I rx ry ⟨_, _, rfl, rfl, hz, q _ _ (zn_dt (.int _))⟩
    · exact nomatch hf
  | Pow =>
    cases cx <;> cases cy <;> simp only [semBin, reduceCtorEq] at hf
    split at hf
    · rename_i hz
      cases hf
      simp only [Bool.and_eq_true, decide_eq_true_eq] at hz
      exact op_pow pins s σ H _ _ _ _ _ I rx ry ⟨_, _, rfl, rfl, ⟨hz.1.1, hz.1.2, hz.2⟩, q _ _ (zn_dt (.int _))⟩
    · exact nomatch hf
  | _ => simp [semBin] at hf

/-! ### comparisons -/
def rC (f : D → D → Option Bool) : R2 := fun x y H Q => ∃ L d e b, Cn H L x d ∧ Cn H L y e ∧ f d e = some b ∧ Q (.bl b) H
theorem eqO_cases {d e : D} {b : Bool} (h : eqO d e = some b) : (∃ x y, scV d = some x ∧ scV e = some y ∧ scal x y = true ∧ b = decide (x = y)) ∨ (shp d = true ∧ shp e = true ∧ b = PyData.eqv d e) := by
  unfold eqO at h
  split at h
  · rename_i x y e1 e2
    split at h
    · rename_i hs
      cases h
      exact .inl ⟨x, y, e1, e2, hs, rfl⟩
    · split at h
      · rename_i hz
        cases h
        simp only [Bool.and_eq_true] at hz
        exact .inr ⟨hz.1, hz.2, rfl⟩
      · exact nomatch h
  · split at h
    · rename_i hz
      cases h
      simp only [Bool.and_eq_true] at hz
      exact .inr ⟨hz.1, hz.2, rfl⟩
    · exact nomatch h
theorem noD_shp {d : D} (h : shp d = true) : noD d = true := by
  unfold shp SeqAt.shaped at h
  simp only [Bool.and_eq_true] at h
  exact noD_of d h.1
theorem eq_ok (hu : X.A.units + 65 < cLine) : OpR X (compareOp .Eq) (rC eqO) := by
  intro pins s σ H x y v u Q I rx ry h
  obtain ⟨L, d, e, b, cx, cy, hf, q⟩ := h
  rcases eqO_cases hf with ⟨x', y', e1, e2, hs, rfl⟩ | ⟨s1, s2, rfl⟩
  · have := cx.isc e1
    subst this
    have := cy.isc e2
    subst this
    exact op_eq pins s σ H _ _ _ _ _ I rx ry ⟨hs, q⟩
  · exact op_eqD (by omega) pins s σ H _ _ _ _ _ I rx ry ⟨d, e, cx.dp (noD_shp s1), cy.dp (noD_shp s2), s1, s2, q⟩
theorem ne_ok (hu : X.A.units + 65 < cLine) : OpR X (compareOp .NotEq) (rC fun d e => (eqO d e).map (!·)) := by
  intro pins s σ H x y v u Q I rx ry h
  obtain ⟨L, d, e, b, cx, cy, hf, q⟩ := h
  have hf : (eqO d e).map (!·) = some b := hf
  cases h0 : eqO d e with
  | none => rw [h0] at hf; simp at hf
  | some b' =>
  rw [h0] at hf
  simp only [Option.map_some, Option.some.injEq] at hf
  subst hf
  rcases eqO_cases h0 with ⟨x', y', e1, e2, hs, rfl⟩ | ⟨s1, s2, rfl⟩
  · have := cx.isc e1
    subst this
    have := cy.isc e2
    subst this
    exact op_ne pins s σ H _ _ _ _ _ I rx ry ⟨hs, q⟩
  · exact op_neD (by omega) pins s σ H _ _ _ _ _ I rx ry ⟨d, e, cx.dp (noD_shp s1), cy.dp (noD_shp s2), s1, s2, q⟩
theorem flat_sc {H : Hp} {L : AS} {x : V} {d : D} (h : Dt H L x d) (e : sc d = true) : flatV x = true := by
  cases h <;> simp [sc] at e <;> rfl
theorem flats_sc {H : Hp} {L : AS} : ∀ {xs : List V} {ds : List D}, Dts H L xs ds → ds.all sc = true → xs.all flatV = true
  | [], _, h, _ => rfl
  | x :: xs, _, h, e => by
    cases h with
    | cons a b =>
      simp only [List.all_cons, Bool.and_eq_true] at e ⊢
      exact ⟨flat_sc a e.1, flats_sc b e.2⟩
theorem eqV_sc {H : Hp} {L L' : AS} {x y : V} {d e : D} (h : Dt H L x d) (k : Dt H L' y e) (e1 : sc d = true) (e2 : sc e = true) : eqV x y = PyData.eqv d e := by
  cases h <;> simp [sc] at e1 <;> cases k <;> simp [sc] at e2 <;> simp [eqV, PyData.eqv] <;> (try rfl)
theorem inV_sc {H : Hp} {L L' : AS} {x : V} {d : D} (h : Dt H L' x d) (e1 : sc d = true) : ∀ {xs : List V} {ds : List D}, Dts H L xs ds → ds.all sc = true → inV x xs = ds.any fun z => PyData.eqv z d
  | [], _, k, _ => by cases k; rfl
  | y :: ys, _, k, e => by
    cases k with
    | cons a b =>
      simp only [List.all_cons, Bool.and_eq_true] at e
      have ih := inV_sc h e1 b e.2
      unfold inV at ih ⊢
      rw [List.any_cons, List.any_cons, eqV_sc a h e.1 e1, ih]
end
end En

set_option Elab.async false
set_option linter.all false
set_option maxRecDepth 100000
set_option maxHeartbeats 4000000
namespace En
open PySem PySem.Spec PyProof.Rows L2
section
variable {X : Cx}
theorem toList_one {w : Str} {c : Nat} (h : w.cps.toList = [c]) : w = ⟨#[c]⟩ := by
  cases w with
  | mk a =>
    have h' : a.toList = [c] := h
    have : a = #[c] := Array.toList_inj.mp (by simpa using h')
    rw [this]
theorem inD_dp {H : Hp} {L : AS} {a : Addr} {xs : List V} {ds : List D} (r : Rd H a (.lst xs)) (s : Dts H L xs ds) (n : shp (.list ds) = true) : Dp X.K H (.ref a) (.list ds) :=
  Cn.dp (Cn.lst r s) (noD_shp n)
theorem key_is (k : Key) (z : Str) : isK (keyD k) z = decide (k = .inr z) := by
  cases k with
  | inl i => simp [keyD, isK]
  | inr y => simp [keyD, isK]
theorem has_val {kvs : List (Key × V)} {es : List (D × D)} (hk : es.map (·.1) = kvs.map (fun kv => keyD kv.1)) (z : Str) : hasS es z = (valV kvs (.inr z)).isSome := by
  unfold hasS
  rw [hk, List.any_map, ← valV_any]
  congr 1
  funext kv
  exact key_is kv.1 z
theorem get_val {H : Hp} {L : AS} (z : Str) : ∀ {kvs : List (Key × V)} {es : List (D × D)}, es.map (·.1) = kvs.map (fun kv => keyD kv.1) → Dvs H L (kvs.map (·.2)) es →
    (match getS es z with | some d => ∃ v, valV kvs (.inr z) = some v ∧ Dt H L v d | none => valV kvs (.inr z) = none)
  | [], [], _, _ => rfl
  | [], _ :: _, h, _ => by simp at h
  | _ :: _, [], h, _ => by simp at h
  | kv :: kvs, e :: es, h, hv => by
    simp only [List.map_cons, List.cons.injEq] at h
    cases hv with
    | cons t tl =>
      unfold getS
      rw [h.1, key_is]
      by_cases hc : kv.1 = .inr z
      · simp only [hc, decide_true, if_true]
        exact ⟨kv.2, valV_pos hc, t⟩
      · simp only [hc, decide_false, Bool.false_eq_true, if_false]
        rw [valV_neg hc]
        exact get_val z h.2 tl
theorem isT_dK {kvs : List (Key × V)} {es : List (D × D)} (hk : es.map (·.1) = kvs.map (fun kv => keyD kv.1)) : isT es = false := by
  cases es with
  | nil => rfl
  | cons e es =>
    cases kvs with
    | nil => simp at hk
    | cons kv kvs =>
      simp only [List.map_cons, List.cons.injEq] at hk
      obtain ⟨e1, e2⟩ := e
      have h1 : e1 = keyD kv.1 := hk.1
      subst h1
      cases kv.1 <;> rfl
theorem isT_dT {kvs : List (List Key × V)} {es : List (D × D)} (hk : es.map (·.1) = .none :: kvs.map (fun kv => keyT kv.1)) : isT es = true := by
  cases es with
  | nil => simp at hk
  | cons e es =>
    simp only [List.map_cons, List.cons.injEq] at hk
    obtain ⟨e1, e2⟩ := e
    have h1 : e1 = .none := hk.1
    subst h1
    rfl
theorem keysO_key : ∀ ks : List Key, keysO (ks.map keyD) = some ks
  | [] => rfl
  | k :: ks => by
    have h1 : keyO (keyD k) = some k := by cases k <;> rfl
    rw [List.map_cons, keysO, h1, keysO_key ks]
theorem tupO_key (ks : List Key) : tupO (keyT ks) = some ks := keysO_key ks
theorem keysO_dts {H : Hp} {L : AS} : ∀ {xs : List V} {ds : List D} {ks : List Key}, Dts H L xs ds → keysO ds = some ks → xs = ks.map kV
  | _, [], _, h, e => by
    cases h
    cases e
    rfl
  | _, d :: ds, ks, h, e => by
    cases h with
    | cons h1 h2 =>
      rw [keysO] at e
      cases e1 : keyO d with
      | none => rw [e1] at e; cases e
      | some k =>
        cases e2 : keysO ds with
        | none => rw [e1, e2] at e; cases e
        | some ks' =>
          rw [e1, e2] at e
          cases e
          rw [List.map_cons, ← keysO_dts h2 e2]
          congr 1
          cases d <;> simp [keyO] at e1 <;> subst e1 <;> cases h1 <;> rfl
theorem hasT_val : ∀ {kvs : List (List Key × V)} {es : List (D × D)}, es.map (·.1) = kvs.map (fun kv => keyT kv.1) → ∀ k : List Key, hasT es k = (valV kvs k).isSome
  | [], [], _, _ => rfl
  | [], _ :: _, h, _ => by simp at h
  | _ :: _, [], h, _ => by simp at h
  | kv :: kvs, e :: es, h, k => by
    simp only [List.map_cons, List.cons.injEq] at h
    have ih := hasT_val h.2 k
    unfold hasT at ih ⊢
    rw [List.any_cons, ih, h.1, tupO_key]
    by_cases hc : kv.1 = k
    · rw [valV_pos hc]
      simp [hc]
    · rw [valV_neg hc]
      simp [hc]
theorem getT_val {H : Hp} {L : AS} : ∀ {kvs : List (List Key × V)} {es : List (D × D)}, es.map (·.1) = kvs.map (fun kv => keyT kv.1) → Dvs H L (kvs.map (·.2)) es → ∀ k : List Key,
    (match getT es k with | some d => ∃ v, valV kvs k = some v ∧ Dt H L v d | none => valV kvs k = none)
  | [], [], _, _, _ => rfl
  | [], _ :: _, h, _, _ => by simp at h
  | _ :: _, [], h, _, _ => by simp at h
  | kv :: kvs, e :: es, h, hv, k => by
    simp only [List.map_cons, List.cons.injEq] at h
    cases hv with
    | cons t tl =>
      unfold getT
      rw [h.1, tupO_key]
      by_cases hc : kv.1 = k
      · simp only [hc, if_true]
        exact ⟨kv.2, valV_pos hc, t⟩
      · simp only [Option.some.injEq, hc, if_false]
        rw [valV_neg hc]
        exact getT_val h.2 tl k
/-- the mark apart -/
theorem dT_split {H : Hp} {L : AS} {kvs : List (List Key × V)} {es : List (D × D)} (hk : es.map (·.1) = .none :: kvs.map (fun kv => keyT kv.1)) (hv : Dvs H L (.non :: kvs.map (·.2)) es) :
    ∃ es', es = (.none, .none) :: es' ∧ es'.map (·.1) = kvs.map (fun kv => keyT kv.1) ∧ Dvs H L (kvs.map (·.2)) es' := by
  cases hv with
  | @cons v vs e es' t tl =>
    simp only [List.map_cons, List.cons.injEq] at hk
    obtain ⟨e1, e2⟩ := e
    have h1 : e1 = .none := hk.1
    subst h1
    have h2 : e2 = .none := by
      generalize hw : V.non = w at t
      cases t <;> first | rfl | cases hw
    subst h2
    exact ⟨es', rfl, hk.2, tl⟩
theorem getT_mark (es : List (D × D)) (k : List Key) : getT ((.none, .none) :: es) k = getT es k := by
  rw [getT]
  exact if_neg (by simp [tupO])
theorem hasT_mark (es : List (D × D)) (k : List Key) : hasT ((.none, .none) :: es) k = hasT es k := by
  simp [hasT, tupO]
theorem putT_mark (es : List (D × D)) (k : List Key) (v : D) : putT ((.none, .none) :: es) k v = (.none, .none) :: putT es k v := by
  unfold putT
  rw [hasT_mark]
  split
  · simp [tupO]
  · rfl
/-- a look-up -/
def GotD (H : Hp) (L : AS) (r : Option V) : Option D → Prop
  | some d => ∃ v, r = some v ∧ Dt H L v d
  | none => r = none
theorem gotS {H : Hp} {L : AS} {kvs : List (Key × V)} {es : List (D × D)} (z : Str) (hk : es.map (·.1) = kvs.map (fun kv => keyD kv.1)) (hv : Dvs H L (kvs.map (·.2)) es) : GotD H L (valV kvs (.inr z)) (getS es z) := by
  have h := get_val z hk hv
  revert h
  cases getS es z <;> exact id
theorem gotT {H : Hp} {L : AS} {kvs : List (List Key × V)} {es : List (D × D)} (k : List Key) (hk : es.map (·.1) = kvs.map (fun kv => keyT kv.1)) (hv : Dvs H L (kvs.map (·.2)) es) : GotD H L (valV kvs k) (getT es k) := by
  have h := getT_val hk hv k
  revert h
  cases getT es k <;> exact id
theorem dget_ok {H : Hp} {L L' : AS} {a : Addr} {es : List (D × D)} {y : V} {yd : D} {o : Option D} (c : Cn H L (.ref a) (.dict es)) (cy : Cn H L' y yd) (e : dget es yd = some o) :
    ∃ r, DGet H a y r ∧ GotD H L r o := by
  cases c with
  | dK r1 hk hv =>
    have it := isT_dK hk
    cases cy with
    | str z =>
      simp only [dget, it, Bool.false_eq_true, if_false, Option.some.injEq] at e
      subst e
      exact ⟨_, DGet.k (k := .inr z) r1, gotS z hk hv⟩
    | tup r2 s2 => simp [dget, it] at e
    | _ => simp [dget] at e
  | dT r1 hk hv =>
    have it := isT_dT hk
    cases cy with
    | @tup b xs ds r2 s2 =>
      simp only [dget, it, if_true] at e
      cases e2 : keysO ds with
      | none => rw [e2] at e; cases e
      | some ks =>
        rw [e2] at e
        simp only [Option.map_some, Option.some.injEq] at e
        subst e
        have := keysO_dts s2 e2
        subst this
        obtain ⟨es', rfl, hk', hv'⟩ := dT_split hk hv
        rw [getT_mark]
        exact ⟨_, DGet.t r1 r2, gotT ks hk' hv'⟩
    | str z => simp [dget, it] at e
    | _ => simp [dget] at e
theorem in_dict {H : Hp} {L L' : AS} {a : Addr} {es : List (D × D)} {y : V} {yd : D} {b : Bool} (c : Cn H L (.ref a) (.dict es)) (cy : Cn H L' y yd) (e : inO yd (.dict es) = some b) : ∃ r, DGet H a y r ∧ b = r.isSome := by
  cases c with
  | dK r1 hk hv =>
    have it := isT_dK hk
    cases cy <;> simp only [inO, it, Bool.false_eq_true, if_false, reduceCtorEq] at e
    rename_i z
    cases e
    exact ⟨_, DGet.k (k := .inr z) r1, has_val hk z⟩
  | dT r1 hk hv =>
    have it := isT_dT hk
    cases cy <;> simp only [inO, it, if_true, reduceCtorEq] at e
    rename_i b' xs ds r2 s2
    cases e2 : keysO ds with
    | none => rw [e2] at e; cases e
    | some ks =>
      rw [e2] at e
      cases e
      have := keysO_dts s2 e2
      subst this
      obtain ⟨es', rfl, hk', hv'⟩ := dT_split hk hv
      rw [hasT_mark]
      exact ⟨_, DGet.t r1 r2, hasT_val hk' ks⟩
/-- a store -/
theorem putK_map {κ : Type} [DecidableEq κ] {F : κ → D} {p : D → κ → Bool} (hp : ∀ j k, p (F j) k = decide (j = k)) : ∀ {kvs : List (κ × V)} {es : List (D × D)}, es.map (·.1) = kvs.map (fun kv => F kv.1) → ∀ (k : κ) (v : V) (d : D),
    (es.map (fun e => if p e.1 k = true then (e.1, d) else e)).map (·.1) = (kvs.map (fun kv => if kv.1 = k then (kv.1, v) else kv)).map (fun kv => F kv.1)
  | [], [], _, _, _, _ => rfl
  | [], _ :: _, h, _, _, _ => by simp at h
  | _ :: _, [], h, _, _, _ => by simp at h
  | kv :: kvs, e :: es, h, k, v, d => by
    simp only [List.map_cons, List.cons.injEq] at h
    have ih := putK_map hp h.2 k v d
    rw [List.map_cons, List.map_cons, List.map_cons, List.map_cons, ih]
    congr 1
    rw [h.1, hp]
    by_cases hc : kv.1 = k <;> simp [hc, h.1]
theorem putK_dvs {H : Hp} {L : AS} {κ : Type} [DecidableEq κ] {F : κ → D} {p : D → κ → Bool} (hp : ∀ j k, p (F j) k = decide (j = k)) {v : V} {d : D} (t : Dt H L v d) : ∀ {kvs : List (κ × V)} {es : List (D × D)}, es.map (·.1) = kvs.map (fun kv => F kv.1) → Dvs H L (kvs.map (·.2)) es → ∀ (k : κ),
    Dvs H L ((kvs.map (fun kv => if kv.1 = k then (kv.1, v) else kv)).map (·.2)) (es.map (fun e => if p e.1 k = true then (e.1, d) else e))
  | [], [], _, _, _ => .nil
  | [], _ :: _, h, _, _ => by simp at h
  | _ :: _, [], h, _, _ => by simp at h
  | kv :: kvs, e :: es, h, hv, k => by
    simp only [List.map_cons, List.cons.injEq] at h
    cases hv with
    | cons t1 tl =>
      rw [List.map_cons, List.map_cons, List.map_cons]
      refine .cons ?_ (putK_dvs hp t h.2 tl k)
      rw [h.1, hp]
      by_cases hc : kv.1 = k
      · simpa [hc] using t
      · simpa [hc] using t1
theorem Dvs.snoc {H : Hp} {L : AS} : ∀ {ws : List V} {fs : List (D × D)} {w : V} {f : D × D}, Dvs H L ws fs → Dt H L w f.2 → Dvs H L (ws ++ [w]) (fs ++ [f])
  | [], _, _, _, h, t => by cases h; exact .cons t .nil
  | _ :: _, _, _, _, h, t => by
    cases h with
    | cons a b => exact .cons a (Dvs.snoc b t)
def pK (x : D) (k : Key) : Bool := match k with
  | .inr z => isK x z
  | .inl i => match x with
    | .int j => decide (j = i)
    | _ => false
theorem dput_ok {H : Hp} {L L' : AS} {a : Addr} {es es' : List (D × D)} {y v : V} {yd d : D} (c : Cn H L (.ref a) (.dict es)) (cy : Cn H L' y yd) (t : Dt H L v d) (e : dputD es yd d = some es') (hl : es.length < sizeLine) :
    (∃ kvs kvs', H a = some (.dK kvs) ∧ DPut H a y v (upd H a (.dK kvs')) ∧ es'.map (·.1) = kvs'.map (fun kv => keyD kv.1) ∧ Dvs H L (kvs'.map (·.2)) es') ∨
    ∃ kvs kvs', H a = some (.dT kvs) ∧ DPut H a y v (upd H a (.dT kvs')) ∧ es'.map (·.1) = .none :: kvs'.map (fun kv => keyT kv.1) ∧ Dvs H L (.non :: kvs'.map (·.2)) es' := by
  cases c with
  | @dK _ kvs _ r1 hk hv =>
    have it := isT_dK hk
    cases cy <;> simp only [dputD, it, Bool.false_eq_true, if_false, reduceCtorEq] at e
    rename_i z
    cases e
    have hz : kvs.length < sizeLine := by
      have := congrArg List.length hk
      simp only [List.length_map] at this
      omega
    refine .inl ⟨kvs, putK kvs (.inr z) v, r1, DPut.k (k := .inr z) r1 hz, ?_⟩
    have ha : hasS es z = kvs.any fun kv => decide (kv.1 = .inr z) := by rw [has_val hk, valV_any]
    unfold putS putK
    rw [ha]
    split
    · exact ⟨putK_map (p := pK) (F := keyD) (fun j k => by cases j <;> cases k <;> simp [keyD, isK, pK]) hk (.inr z) v d, putK_dvs (p := pK) (F := keyD) (fun j k => by cases j <;> cases k <;> simp [keyD, isK, pK]) t hk hv (.inr z)⟩
    · rw [List.map_append, List.map_append, List.map_append, hk]
      exact ⟨rfl, hv.snoc t⟩
  | @dT _ kvs _ r1 hk hv =>
    have it := isT_dT hk
    cases cy <;> simp only [dputD, it, if_true, reduceCtorEq] at e
    rename_i b xs ds r2 s2
    cases e2 : keysO ds with
    | none => rw [e2] at e; cases e
    | some ks =>
      rw [e2] at e
      cases e
      have := keysO_dts s2 e2
      subst this
      have hz : kvs.length < sizeLine := by
        have := congrArg List.length hk
        simp only [List.length_map, List.length_cons] at this
        omega
      obtain ⟨es', rfl, hk', hv'⟩ := dT_split hk hv
      refine .inr ⟨kvs, putK kvs ks v, r1, DPut.t r1 r2 hz, ?_⟩
      show (putT ((.none, .none) :: es') ks d).map (·.1) = _ ∧ Dvs H L _ (putT ((.none, .none) :: es') ks d)
      rw [putT_mark]
      have ha : hasT es' ks = kvs.any fun kv => decide (kv.1 = ks) := by rw [hasT_val hk', valV_any]
      unfold putT putK
      rw [ha]
      have hp : ∀ j k : List Key, decide (tupO (keyT j) = some k) = decide (j = k) := fun j k => by rw [tupO_key]; simp
      split
      · refine ⟨?_, .cons .non ?_⟩
        · have := putK_map (p := fun x k => decide (tupO x = some k)) (F := keyT) hp hk' ks v d
          simp only [decide_eq_true_eq] at this
          rw [List.map_cons, this]
        · have := putK_dvs (p := fun x k => decide (tupO x = some k)) (F := keyT) hp t hk' hv' ks
          simpa only [decide_eq_true_eq] using this
      · refine ⟨?_, .cons .non ?_⟩
        · rw [List.map_cons, List.map_append, hk', List.map_append]
          rfl
        · rw [List.map_append]
          exact hv'.snoc t
theorem in_ok (hu : X.A.units + 65 < cLine) : OpR X (compareOp .In) (rC inO) := by
  intro pins s σ H x y v u Q I rx ry h
  obtain ⟨L, d, e, b, cx, cy, hf, q⟩ := h
  cases cy <;> simp only [inO, reduceCtorEq] at hf
  · cases cx <;> simp only [reduceCtorEq] at hf
    split at hf
    · rename_i z _ w c hw
      cases hf
      have := toList_one hw
      subst this
      exact op_in_sign pins s σ H _ _ _ _ _ I rx ry ⟨_, _, rfl, rfl, q⟩
    · exact nomatch hf
  · rename_i a xs ds r1 s1
    split at hf
    · rename_i hz
      cases hf
      simp only [Bool.and_eq_true] at hz
      have dx : Dt H L x d := cx.dt_sc hz.1
      have e1 := inV_sc dx hz.1 s1 hz.2
      refine op_in_seq pins s σ H _ _ _ _ _ I rx ry ⟨_, _, rfl, .inl (.inl r1), flat_sc dx hz.1, flats_sc s1 hz.2, ?_⟩
      rw [if_neg (by simp), e1]
      exact q
    · split at hf
      · rename_i hz
        cases hf
        simp only [Bool.and_eq_true] at hz
        exact op_inD hu pins s σ H _ _ _ _ _ I rx ry ⟨d, ds, cx.dp (noD_shp hz.1), inD_dp r1 s1 hz.2, hz.1, hz.2, q⟩
      · exact nomatch hf
  · rename_i a xs ds r1 s1
    split at hf
    · rename_i hz
      cases hf
      simp only [Bool.and_eq_true] at hz
      have dx : Dt H L x d := cx.dt_sc hz.1
      have e1 := inV_sc dx hz.1 s1 hz.2
      refine op_in_seq pins s σ H _ _ _ _ _ I rx ry ⟨_, _, rfl, .inr (.inl (.inl r1)), flat_sc dx hz.1, flats_sc s1 hz.2, ?_⟩
      rw [if_neg (by simp), e1]
      exact q
    · exact nomatch hf
  all_goals
    rename_i a kvs es r1 hk hv
    cases ry
    first
    | (obtain ⟨r, g, rfl⟩ := in_dict (.dK r1 hk hv) cx hf
       exact d_in (by omega) I g rx fun s' I' => ⟨.bl _, H, I', rfl, q⟩)
    | (obtain ⟨r, g, rfl⟩ := in_dict (.dT r1 hk hv) cx hf
       exact d_in (by omega) I g rx fun s' I' => ⟨.bl _, H, I', rfl, q⟩)
theorem notIn_ok (hu : X.A.units + 65 < cLine) : OpR X (compareOp .NotIn) (rC fun d e => (inO d e).map (!·)) := by
  intro pins s σ H x y v u Q I rx ry h
  obtain ⟨L, d, e, b, cx, cy, hf', q⟩ := h
  have hf' : (inO d e).map (!·) = some b := hf'
  cases hf : inO d e with
  | none => rw [hf] at hf'; simp at hf'
  | some b' =>
  rw [hf] at hf'
  simp only [Option.map_some, Option.some.injEq] at hf'
  subst hf'
  cases cy <;> simp only [inO, reduceCtorEq] at hf
  · cases cx <;> simp only [reduceCtorEq] at hf
    split at hf
    · rename_i z _ w c hw
      cases hf
      have := toList_one hw
      subst this
      exact op_notIn_sign pins s σ H _ _ _ _ _ I rx ry ⟨_, _, rfl, rfl, q⟩
    · exact nomatch hf
  · rename_i a xs ds r1 s1
    split at hf
    · rename_i hz
      cases hf
      simp only [Bool.and_eq_true] at hz
      have dx : Dt H L x d := cx.dt_sc hz.1
      have e1 := inV_sc dx hz.1 s1 hz.2
      refine op_notIn_seq pins s σ H _ _ _ _ _ I rx ry ⟨_, _, rfl, .inl (.inl r1), flat_sc dx hz.1, flats_sc s1 hz.2, ?_⟩
      rw [if_pos rfl, e1]
      exact q
    · split at hf
      · rename_i hz
        cases hf
        simp only [Bool.and_eq_true] at hz
        exact op_notInD hu pins s σ H _ _ _ _ _ I rx ry ⟨d, ds, cx.dp (noD_shp hz.1), inD_dp r1 s1 hz.2, hz.1, hz.2, q⟩
      · exact nomatch hf
  · rename_i a xs ds r1 s1
    split at hf
    · rename_i hz
      cases hf
      simp only [Bool.and_eq_true] at hz
      have dx : Dt H L x d := cx.dt_sc hz.1
      have e1 := inV_sc dx hz.1 s1 hz.2
      refine op_notIn_seq pins s σ H _ _ _ _ _ I rx ry ⟨_, _, rfl, .inr (.inl (.inl r1)), flat_sc dx hz.1, flats_sc s1 hz.2, ?_⟩
      rw [if_pos rfl, e1]
      exact q
    · exact nomatch hf
  all_goals
    rename_i a kvs es r1 hk hv
    cases ry
    first
    | (obtain ⟨r, g, rfl⟩ := in_dict (.dK r1 hk hv) cx hf
       exact d_notIn (by omega) I g rx fun s' I' => ⟨.bl _, H, I', rfl, q⟩)
    | (obtain ⟨r, g, rfl⟩ := in_dict (.dT r1 hk hv) cx hf
       exact d_notIn (by omega) I g rx fun s' I' => ⟨.bl _, H, I', rfl, q⟩)
theorem is_ok : OpR X (compareOp .Is) (rC isO) := by
  intro pins s σ H x y v u Q I rx ry h
  obtain ⟨L, d, e, b, cx, cy, hf, q⟩ := h
  cases cy <;> simp only [isO, reduceCtorEq] at hf
  · cases hf
    refine op_isN pins s σ H _ _ _ _ _ I rx ry ⟨rfl, ?_⟩
    cases cx <;> exact q
  · cases cx <;> simp only [reduceCtorEq] at hf
    cases hf
    exact op_isBl pins s σ H _ _ _ _ _ I rx ry ⟨_, _, rfl, rfl, q⟩
theorem isNot_ok : OpR X (compareOp .IsNot) (rC fun d e => (isO d e).map (!·)) := by
  intro pins s σ H x y v u Q I rx ry h
  obtain ⟨L, d, e, b, cx, cy, hf, q⟩ := h
  have hf : (isO d e).map (!·) = some b := hf
  cases cy <;> simp only [isO, reduceCtorEq, Option.map_none, Option.map_some] at hf
  · cases hf
    refine op_notN pins s σ H _ _ _ _ _ I rx ry ⟨rfl, ?_⟩
    cases cx <;> exact q
  · cases cx <;> simp only [reduceCtorEq, Option.map_none, Option.map_some] at hf
    cases hf
    exact op_notBl pins s σ H _ _ _ _ _ I rx ry ⟨_, _, rfl, rfl, q⟩
theorem cmp_ok (hu : X.A.units + 65 < cLine) (op : CmpOp) : OpR X (compareOp op) (rC (semCmp op)) := by
  cases op with
  | Eq => exact eq_ok hu
  | NotEq => exact ne_ok hu
  | In => exact in_ok hu
  | NotIn => exact notIn_ok hu
  | Is => exact is_ok
  | IsNot => exact isNot_ok
  | Lt =>
    intro pins s σ H x y v u Q I rx ry h
    obtain ⟨L, d, e, b, cx, cy, hf, q⟩ := h
    cases cx <;> cases cy <;> simp only [semCmp, reduceCtorEq] at hf
    · cases hf
      exact op_lt pins s σ H _ _ _ _ _ I rx ry ⟨_, _, rfl, rfl, q⟩
    · cases hf
      exact op_lt_str pins s σ H _ _ _ _ _ I rx ry ⟨_, _, rfl, rfl, q⟩
  | LtE =>
    intro pins s σ H x y v u Q I rx ry h
    obtain ⟨L, d, e, b, cx, cy, hf, q⟩ := h
    cases cx <;> cases cy <;> simp only [semCmp, reduceCtorEq] at hf
    cases hf
    exact op_le pins s σ H _ _ _ _ _ I rx ry ⟨_, _, rfl, rfl, q⟩
  | Gt =>
    intro pins s σ H x y v u Q I rx ry h
    obtain ⟨L, d, e, b, cx, cy, hf, q⟩ := h
    cases cx <;> cases cy <;> simp only [semCmp, reduceCtorEq] at hf
    cases hf
    exact op_gt pins s σ H _ _ _ _ _ I rx ry ⟨_, _, rfl, rfl, q⟩
  | GtE =>
    intro pins s σ H x y v u Q I rx ry h
    obtain ⟨L, d, e, b, cx, cy, hf, q⟩ := h
    cases cx <;> cases cy <;> simp only [semCmp, reduceCtorEq] at hf
    cases hf
    exact op_ge pins s σ H _ _ _ _ _ I rx ry ⟨_, _, rfl, rfl, q⟩

/-! ### items, cuts -/
theorem atI_dts {H : Hp} {L : AS} {xs : List V} {ds : List D} {k : Int} {z : D} (s : Dts H L xs ds) (h : atI ds k = some z) : ∃ v, atI xs k = some v ∧ Dt H L v z := by
  unfold atI at h ⊢
  rw [s.length]
  cases e : ixN ds.length k with
  | none => rw [e] at h; exact nomatch h
  | some j =>
    rw [e] at h
    exact s.get h
def rI1 (f : D → D → Option D) : R2 := fun x y H Q => ∃ L d e z, Cn H L x d ∧ Cn H L y e ∧ f d e = some z ∧ ∀ v, Dt H L v z → Q v H
theorem ix_ok : IxR X (rI1 semIx) := by
  intro val sli pins s σ H x y v u Q I rx ry h hs
  obtain ⟨L, d, e, z, cx, cy, hf, q⟩ := h
  cases cx <;> cases cy <;> simp only [semIx, reduceCtorEq] at hf
  · split at hf
    · rename_i hz
      rename_i zz k
      cases ha : atI zz.cps.toList k with
      | none => rw [ha] at hf; simp at hf
      | some c =>
        rw [ha] at hf
        simp only [Option.map_some, Option.some.injEq] at hf
        subst hf
        exact ix_str val sli pins s σ H _ _ _ _ _ I rx ry ⟨_, _, _, rfl, rfl, fits_le hz, ha, q _ (.str _)⟩ hs
    · exact nomatch hf
  · rename_i r1 s1 k
    obtain ⟨v', e1, dv⟩ := atI_dts s1 hf
    exact ix_list val sli pins s σ H _ _ _ _ _ I rx ry ⟨_, _, _, _, rfl, rfl, .inl r1, e1, q _ dv⟩ hs
  · rename_i r1 s1 k
    obtain ⟨v', e1, dv⟩ := atI_dts s1 hf
    exact ix_tup val sli pins s σ H _ _ _ _ _ I rx ry ⟨_, _, _, _, rfl, rfl, .inl (.inl r1), e1, q _ dv⟩ hs
theorem cut_dts {H : Hp} {L : AS} {xs : List V} {ds : List D} (s : Dts H L xs ds) (lo hi : Option Int) : Dts H L (cutV xs lo hi) (cutL ds lo hi) := by
  unfold cutV cutL
  rw [s.length]
  exact (s.drop _).take _
def rSl2 : V → Option Int → Option Int → Hp → VK → Prop := fun x lo hi H Q => ∃ L d nw z, Cn H L x d ∧ semSl d lo hi = some (nw, z) ∧ ∀ v H', Zn H L H' v nw z → Q v H'
theorem cutL_whole {α : Type} {xs : List α} {lo hi : Option Int} (h : HT.sIx xs.length 0 lo = 0 ∧ HT.sIx xs.length xs.length hi = xs.length) : cutL xs lo hi = xs := by
  unfold cutL
  rw [h.1, h.2]
  simp
theorem sl_ok : SlR X rSl2 := by
  intro pins s σ H x v vl vu lo hi sl Q I rx hsl p1 p2 h
  obtain ⟨L, d, nw, z, cx, hf, q⟩ := h
  cases cx <;> simp only [semSl, reduceCtorEq] at hf
  · split at hf
    · rename_i zz hz
      cases hf
      refine sl_str pins s σ H _ v vl vu lo hi sl Q I rx hsl p1 p2 ⟨zz, rfl, fits_le hz, ?_⟩
      have e : cutS zz lo hi = ⟨(cutL zz.cps.toList lo hi).toArray⟩ := rfl
      rw [e]
      exact q _ _ (zn_dt (.str _))
    · exact nomatch hf
  · rename_i r1 s1
    cases hf
    exact sl_list pins s σ H _ v vl vu lo hi sl Q I rx hsl p1 p2 ⟨_, _, rfl, .inl r1, fun p hp => q _ _ (zn_new hp (cut_dts s1 lo hi))⟩
  · rename_i r1 s1
    cases hf
    refine sl_tupA pins s σ H _ v vl vu lo hi sl Q I rx hsl p1 p2 ⟨_, _, rfl, .inl (.inl r1), fun hw => ?_, fun _ p hp => q _ _ (zn_tup hp (cut_dts s1 lo hi))⟩
    rw [s1.length] at hw
    have e := cutL_whole hw
    rw [e] at q
    exact q _ _ (zn_dt (.tup r1 s1))

/-! ### built-in functions -/
inductive Cns (H : Hp) (L : AS) : List V → List D → Prop
  | nil : Cns H L [] []
  | cons {v : V} {vs : List V} {d : D} {ds : List D} : Cn H L v d → Cns H L vs ds → Cns H L (v :: vs) (d :: ds)
theorem ints_of {H : Hp} {L : AS} : ∀ {xs : List V} {ds : List D} {ns : List Int}, Dts H L xs ds → allO isInt ds = some ns → xs = ns.map V.int
  | _, [], _, h, e => by cases h; simp [allO] at e; subst e; rfl
  | _, d :: ds, _, h, e => by
    cases h with
    | cons a b =>
      cases a <;> simp only [allO, isInt, reduceCtorEq] at e
      cases e2 : allO isInt ds with
      | none => rw [e2] at e; exact nomatch e
      | some r =>
        rw [e2] at e
        cases e
        rw [ints_of b e2]
        rfl
theorem strs_of {H : Hp} {L : AS} : ∀ {xs : List V} {ds : List D} {ns : List Str}, Dts H L xs ds → allO isStr ds = some ns → xs = ns.map V.str
  | _, [], _, h, e => by cases h; simp [allO] at e; subst e; rfl
  | _, d :: ds, _, h, e => by
    cases h with
    | cons a b =>
      cases a <;> simp only [allO, isStr, reduceCtorEq] at e
      cases e2 : allO isStr ds with
      | none => rw [e2] at e; exact nomatch e
      | some r =>
        rw [e2] at e
        cases e
        rw [strs_of b e2]
        rfl
theorem bls_of {H : Hp} {L : AS} : ∀ {xs : List V} {ds : List D} {ns : List Bool}, Dts H L xs ds → allO isBl ds = some ns → xs = ns.map V.bl
  | _, [], _, h, e => by cases h; simp [allO] at e; subst e; rfl
  | _, d :: ds, _, h, e => by
    cases h with
    | cons a b =>
      cases a <;> simp only [allO, isBl, reduceCtorEq] at e
      cases e2 : allO isBl ds with
      | none => rw [e2] at e; exact nomatch e
      | some r =>
        rw [e2] at e
        cases e
        rw [bls_of b e2]
        rfl
theorem ints_dts {H : Hp} {L : AS} : ∀ ns : List Int, Dts H L (ns.map V.int) (ns.map PyData.int)
  | [] => .nil
  | _ :: ns => .cons (.int _) (ints_dts ns)
theorem minF : ∀ (xs : List Int) (x : Int), (xs.foldl (fun a b => if b < a then b else a) x ∈ x :: xs) ∧ ∀ y ∈ x :: xs, xs.foldl (fun a b => if b < a then b else a) x ≤ y
  | [], x => by simp
  | z :: xs, x => by
    obtain ⟨h1, h2⟩ := minF xs (if z < x then z else x)
    rw [List.foldl_cons]
    generalize hm : xs.foldl (fun a b => if b < a then b else a) (if z < x then z else x) = m at h1 h2
    have h3 := h2 _ (List.mem_cons_self)
    refine ⟨?_, fun y hy => ?_⟩
    · rcases List.mem_cons.mp h1 with h | h
      · rw [h]
        split <;> simp
      · simp [h]
    · rcases List.mem_cons.mp hy with h | h
      · subst h
        split at h3 <;> omega
      · rcases List.mem_cons.mp h with h | h
        · subst h
          split at h3 <;> omega
        · exact h2 y (List.mem_cons_of_mem _ h)
theorem maxF : ∀ (xs : List Int) (x : Int), (xs.foldl (fun a b => if a < b then b else a) x ∈ x :: xs) ∧ ∀ y ∈ x :: xs, y ≤ xs.foldl (fun a b => if a < b then b else a) x
  | [], x => by simp
  | z :: xs, x => by
    obtain ⟨h1, h2⟩ := maxF xs (if x < z then z else x)
    rw [List.foldl_cons]
    generalize hm : xs.foldl (fun a b => if a < b then b else a) (if x < z then z else x) = m at h1 h2
    have h3 := h2 _ (List.mem_cons_self)
    refine ⟨?_, fun y hy => ?_⟩
    · rcases List.mem_cons.mp h1 with h | h
      · rw [h]
        split <;> simp
      · simp [h]
    · rcases List.mem_cons.mp hy with h | h
      · subst h
        split at h3 <;> omega
      · rcases List.mem_cons.mp h with h | h
        · subst h
          split at h3 <;> omega
        · exact h2 y (List.mem_cons_of_mem _ h)
theorem sortI_uniq {ns ns' : List Int} (p : ns'.Perm ns) (w : ns'.Pairwise (· ≤ ·)) : ns' = sortI ns := by
  have p2 : (sortI ns).Perm ns := List.mergeSort_perm _ _
  have w2 : (sortI ns).Pairwise (· ≤ ·) := by
    have := List.pairwise_mergeSort (le := fun a b : Int => decide (a ≤ b)) (fun a b c => by simp; omega) (fun a b => by simp; omega) ns
    exact this.imp fun h => by simpa using h
  exact (p.trans p2.symm).eq_of_pairwise (fun a b _ _ h1 h2 => by omega) w w2
def rBi (f : Str) : List V → Hp → VK → Prop := fun vs H Q => ∃ L ds nw z, Cns H L vs ds ∧ semBi f ds = some (nw, z) ∧ ∀ v H', Zn H L H' v nw z → Q v H'
/-- what stands behind a built-in name -/
def biV (f : Str) : Option Value :=
  if f = "len" then some (.builtin "len") else if f = "list" then some (.type "list") else if f = "tuple" then some (.type "tuple") else if f = "sum" then some (.builtin "sum")
  else if f = "min" then some (.builtin "min") else if f = "max" then some (.builtin "max") else if f = "int" then some (.type "int") else if f = "any" then some (.builtin "any")
  else if f = "all" then some (.builtin "all") else if f = "sorted" then some (.builtin "sorted") else if f = "str" then some (.type "str") else none
theorem digit_text {x : Str} {i : Int} (h : digit x = some i) : PySem.intText? x = some i ∧ x.length ≤ 640 := by
  unfold digit at h
  split at h
  · rename_i c hc
    split at h
    · rename_i hr
      cases h
      have := toList_one hc
      subst this
      refine ⟨?_, by show 1 ≤ 640; omega⟩
      obtain ⟨h1, h2⟩ := hr
      have : c = 48 ∨ c = 49 ∨ c = 50 ∨ c = 51 ∨ c = 52 ∨ c = 53 ∨ c = 54 ∨ c = 55 ∨ c = 56 ∨ c = 57 := by omega
      rcases this with h | h | h | h | h | h | h | h | h | h <;> subst h <;> decide +kernel
    · exact nomatch h
  · exact nomatch h
theorem bi_len : CallR X (.builtin "len") (rBi "len") := by
  intro pins s σ H vs us Q I rv h
  obtain ⟨L, ds, nw, z, cs, hf, q⟩ := h
  have hf : s_len ds = some (nw, z) := hf
  revert cs
  unfold s_len at hf
  split at hf
  · intro cs
    cases cs with | cons c cs => cases cs with | nil => cases c with
    | lst r s1 =>
      cases hf
      have := q (.int _) H (zn_dt (.int _))
      rw [← s1.length] at this
      exact call_len_seq pins s σ H _ us Q I rv ⟨_, _, rfl, .inl (.inl r), this⟩
  · intro cs
    cases cs with | cons c cs => cases cs with | nil => cases c with
    | tup r s1 =>
      cases hf
      have := q (.int _) H (zn_dt (.int _))
      rw [← s1.length] at this
      exact call_len_seq pins s σ H _ us Q I rv ⟨_, _, rfl, .inr (.inl (.inl r)), this⟩
  · rename_i x _
    intro cs
    cases cs with | cons c cs => cases cs with | nil => cases c with
    | str =>
      split at hf
      · rename_i hz
        cases hf
        exact call_len_str pins s σ H _ us Q I rv ⟨_, rfl, fits_le hz, q _ _ (zn_dt (.int _))⟩
      · exact nomatch hf
  · exact nomatch hf
theorem signs_vals {x : Str} {acc : Array Value} (h : ItemsOf (SignAt x) acc x.cps.size) : Vals (x.cps.toList.map fun c => V.str ⟨#[c]⟩) acc.toList := by
  have hl : acc.toList.length = x.cps.toList.length := by rw [Array.length_toList, h.1, Array.length_toList]
  have key : ∀ (us : List Value) (cs : List Nat), us.length = cs.length → (∀ (j : Nat) (u : Value) (c : Nat), us[j]? = some u → cs[j]? = some c → RelV (V.str ⟨#[c]⟩) u) → Vals (cs.map fun c => V.str ⟨#[c]⟩) us := by
    intro us
    induction us with
    | nil => intro cs hl _; cases cs with | nil => exact .nil | cons _ _ => cases hl
    | cons u us ih =>
      intro cs hl hr
      cases cs with
      | nil => cases hl
      | cons c cs => exact .cons (hr 0 u c rfl rfl) (ih cs (by simpa using hl) fun j u c h1 h2 => hr (j + 1) u c (by simpa using h1) (by simpa using h2))
  refine key _ _ hl fun j u c h1 h2 => ?_
  obtain ⟨c', t, e1, e2⟩ := h.2 j u (by rw [← Array.getElem?_toList]; exact h1)
  rw [← Array.getElem?_toList, h2] at e1
  cases e1
  exact ⟨t, e2⟩
theorem signs_dts {H : Hp} {L : AS} : ∀ cs : List Nat, Dts H L (cs.map fun c => V.str ⟨#[c]⟩) (cs.map fun c => PyData.str ⟨#[c]⟩)
  | [] => .nil
  | c :: cs => .cons (.str _) (signs_dts cs)
theorem bi_list (hc : X.calm = true) : CallR X (.type "list") (rBi "list") := by
  intro pins s σ H vs us Q I rv h
  obtain ⟨L, ds, nw, z, cs, hf, q⟩ := h
  have hf : s_list ds = some (nw, z) := hf
  revert cs
  unfold s_list at hf
  split at hf
  · intro cs
    cases cs with | cons c cs => cases cs with | nil => cases c with
    | lst r s1 =>
      cases hf
      exact call_list_of pins s σ H _ us Q I rv ⟨_, _, rfl, .inl (.inl r), fun p hp => q _ _ (zn_new hp s1)⟩
  · intro cs
    cases cs with | cons c cs => cases cs with | nil => cases c with
    | tup r s1 =>
      cases hf
      exact call_list_of pins s σ H _ us Q I rv ⟨_, _, rfl, .inr (.inl (.inl r)), fun p hp => q _ _ (zn_new hp s1)⟩
  · rename_i x _
    intro cs
    cases cs with | cons c cs => cases cs with | nil => cases c with
    | str =>
      split at hf
      · rename_i hz
        cases hf
        have hz : x.cps.toList.length ≤ sizeLine := of_decide_eq_true hz
        cases rv with | cons rx rr => cases rr with | nil =>
        obtain ⟨t, e⟩ := rx
        subst e
        refine call_list_str (I.ok.hd hc) x t (fun h' tk acc c' hk hS hi => ?_) (by rw [← Array.length_toList]; exact hz)
        refine ⟨.ref s.heap.objs.size, upd H s.heap.objs.size (.lst (x.cps.toList.map fun c => V.str ⟨#[c]⟩)), I.laid hk (Nat.le_refl _) (show ObjOk X.prog X.w _ _ _ (.lst _) from ⟨?_, acc.toList, c', signs_vals hi, ?_⟩), rfl, q _ _ (zn_new (I.hok.fresh (Nat.le_refl _)) (signs_dts _))⟩
        · rw [List.length_map]; exact hz
        · rw [Array.toArray_toList]; exact hS
      · cases hf
  · exact nomatch hf
theorem bi_tuple (hc : X.calm = true) : CallR X (.type "tuple") (rBi "tuple") := by
  intro pins s σ H vs us Q I rv h
  obtain ⟨L, ds, nw, z, cs, hf, q⟩ := h
  have hf : s_tuple ds = some (nw, z) := hf
  revert cs
  unfold s_tuple at hf
  split at hf
  · intro cs
    cases cs with | cons c cs => cases cs with | nil => cases c with
    | lst r s1 =>
      cases hf
      exact call_tuple_of pins s σ H _ us Q I rv ⟨_, _, rfl, .inl ⟨.inl r, fun p hp => q _ _ (zn_tup hp s1)⟩⟩
  · intro cs
    cases cs with | cons c cs => cases cs with | nil => cases c with
    | tup r s1 =>
      cases hf
      exact call_tuple_of pins s σ H _ us Q I rv ⟨_, _, rfl, .inr ⟨.inl (.inl r), q _ _ (zn_dt (.tup r s1))⟩⟩
  · rename_i x _
    intro cs
    cases cs with | cons c cs => cases cs with | nil => cases c with
    | str =>
      split at hf
      · rename_i hz
        cases hf
        have hz : x.cps.toList.length ≤ sizeLine := of_decide_eq_true hz
        cases rv with | cons rx rr => cases rr with | nil =>
        obtain ⟨t, e⟩ := rx
        subst e
        refine call_tuple_str (I.ok.hd hc) x t (fun h' tk acc hk hi => ?_) (by rw [← Array.length_toList]; exact hz)
        have I2 : Inv X pins σ H { s with heap := h', toks := tk } := I.kept hk
        refine ⟨.ref h'.objs.size, upd H h'.objs.size (.tup (x.cps.toList.map fun c => V.str ⟨#[c]⟩)), I2.laid (t' := tk) (fun c o e => Heap.get?_push_of_some _ e) (Nat.le_refl _) (show ObjOk X.prog X.w _ _ _ (.tup _) from ⟨?_, acc.toList, signs_vals hi, ?_⟩), rfl, q _ _ (zn_tup (I2.hok.fresh (Nat.le_refl _)) (signs_dts _))⟩
        · rw [List.length_map]; exact hz
        · rw [Array.toArray_toList]; exact IsTup.new _ _
      · cases hf
  · exact nomatch hf
theorem bi_sum (hc : X.calm = true) : CallR X (.builtin "sum") (rBi "sum") := by
  intro pins s σ H vs us Q I rv h
  obtain ⟨L, ds, nw, z, cs, hf, q⟩ := h
  have hf : s_sum ds = some (nw, z) := hf
  revert cs
  unfold s_sum at hf
  split at hf
  · rename_i l _
    intro cs
    cases cs with | cons c cs => cases cs with | nil => cases c with
    | lst r s1 =>
      cases e : allO isInt l with
      | none => rw [e] at hf; exact nomatch hf
      | some ns =>
        rw [e] at hf
        cases hf
        have := ints_of s1 e
        subst this
        exact cr_sum hc pins s σ H _ us Q I rv ⟨_, _, rfl, .inl r, q _ _ (zn_dt (.int _))⟩
  · exact nomatch hf
/-! data that can be compared -/
theorem noDs_sc : ∀ l : List D, l.all sc = true → noDs l = true
  | [], _ => rfl
  | d :: l, h => by
    rw [List.all_cons, Bool.and_eq_true] at h
    rw [noDs, noDs_sc l h.2]
    cases d <;> simp [sc] at h <;> simp [noD]
mutual
theorem noD_alike : ∀ d : D, PySem.W.alike d d = true → noD d = true
  | .none, _ => by simp [noD]
  | .bool _, _ => by simp [noD]
  | .int _, _ => by simp [noD]
  | .str _, _ => by simp [noD]
  | .list ds, h => by
    rw [noD]
    exact noDs_alike ds (by simpa [PySem.W.alike] using h)
  | .tuple ds, h => by
    rw [noD]
    exact noDs_alike ds (by simpa [PySem.W.alike] using h)
  | .dict _, h => by simp [PySem.W.alike] at h
theorem noDs_alike : ∀ ds : List D, PySem.W.alikeAll ds ds = true → noDs ds = true
  | [], _ => rfl
  | d :: ds, h => by
    rw [PySem.W.alikeAll, Bool.and_eq_true] at h
    rw [noDs, noD_alike d h.1, noDs_alike ds h.2]
    rfl
end
theorem noD_alk {l : List D} (h : alk l = true) : ∀ d ∈ l, noD d = true := fun d hd => noD_alike d (by
  unfold alk at h
  exact List.all_eq_true.mp (List.all_eq_true.mp h d hd) d hd)
theorem each_dts {H : Hp} {L : AS} : ∀ {ws : List V} {ds : List D} {vs : List Value}, Dts H L ws ds → Vals ws vs → PySem.W.EachIs (fun v d => ∃ w, RelV w v ∧ Dt H L w d) vs ds
  | [], _, _, h, r => by cases h; cases r; exact .nil
  | w :: ws, _, _, h, r => by
    cases h with
    | cons h1 h2 => cases r with
      | cons r1 r2 => exact .cons ⟨w, r1, h1⟩ (each_dts h2 r2)
theorem each_back {H : Hp} {L : AS} : ∀ {vs : List Value} {ds : List D}, PySem.W.EachIs (fun v d => ∃ w, RelV w v ∧ Dt H L w d) vs ds → ∃ ws, Vals ws vs ∧ Dts H L ws ds
  | _, _, .nil => ⟨[], .nil, .nil⟩
  | _, _, .cons ⟨w, r, t⟩ h => by
    obtain ⟨ws, r2, t2⟩ := each_back h
    exact ⟨w :: ws, .cons r r2, .cons t t2⟩
theorem each_reads {X : Cx} {pins : List (Addr × Obj)} {σ : L2.St} {H : Hp} {s : Shared} {L : AS} (I : Inv X pins σ H s) : ∀ {ws : List V} {ds : List D} {vs : List Value}, (∀ d ∈ ds, noD d = true) → Dts H L ws ds → Vals ws vs → PySem.W.EachIs (fun v d => ∃ as, Reads s.heap v d as) vs ds
  | [], _, _, _, h, r => by cases h; cases r; exact .nil
  | w :: ws, _, _, n, h, r => by
    cases h with
    | cons h1 h2 => cases r with
      | cons r1 r2 => exact .cons (Dp.reads I _ w _ (Dt.dp (K := X.K) _ w (n _ List.mem_cons_self) h1) r1) (each_reads I (fun d hd => n d (List.mem_cons_of_mem _ hd)) h2 r2)
theorem srtb_ok {l : List D} (h : srtb l = true) : PySem.W.Sortable l := by
  unfold srtb at h
  rw [Bool.or_eq_true] at h
  rcases h with h | h
  · refine .inl fun d hd => ?_
    have := List.all_eq_true.mp h d hd
    split at this
    · exact ⟨_, _, rfl⟩
    · cases this
  · refine .inr fun d hd => ?_
    have := List.all_eq_true.mp h d hd
    split at this
    · cases this
    · cases this
    · rename_i h1 h2
      exact ⟨h1, h2⟩
theorem depth_mem : ∀ {l : List D} {d : D}, d ∈ l → d.depth ≤ PyData.depthAll l
  | x :: l, d, h => by
    rw [PyData.depthAll]
    rcases List.mem_cons.mp h with h | h
    · subst h
      exact Nat.le_max_left _ _
    · exact Nat.le_trans (depth_mem h) (Nat.le_max_right _ _)
theorem alk_at {l : List D} (h : alk l = true) {x y : D} (hx : x ∈ l) (hy : y ∈ l) : PySem.W.alike x y = true := by
  unfold alk at h
  exact List.all_eq_true.mp (List.all_eq_true.mp h x hx) y hy
theorem noN_at {l : List D} (h : noN l = true) {x : D} (hx : x ∈ l) : x ≠ .none := by
  have := List.all_eq_true.mp h x hx
  intro z
  subst z
  cases this
theorem depth_sc : ∀ l : List D, l.all sc = true → PyData.depthAll l = 0
  | [], _ => by simp [PyData.depthAll]
  | d :: l, h => by
    rw [List.all_cons, Bool.and_eq_true] at h
    rw [PyData.depthAll, depth_sc l h.2]
    cases d <;> simp [sc] at h <;> simp [PyData.depth]
theorem reads_sc {h : Heap} {v : Value} {d : D} {bs : List Addr} (r : Reads h v d bs) (e : sc d = true) : ∃ u, scV d = some u ∧ RelV u v := by
  cases r <;> simp [sc] at e
  · exact ⟨_, rfl, rfl⟩
  · exact ⟨_, rfl, rfl⟩
  · exact ⟨_, rfl, _, rfl⟩
  · exact ⟨_, rfl, _, rfl⟩
theorem minD_mem : ∀ (xs : List D) (x : D), PySem.W.minD x xs ∈ x :: xs
  | [], x => by simp [PySem.W.minD]
  | y :: ys, x => by
    have h := minD_mem ys (if PySem.W.dataLt y x then y else x)
    have e : PySem.W.minD x (y :: ys) = PySem.W.minD (if PySem.W.dataLt y x then y else x) ys := rfl
    rw [e]
    rcases List.mem_cons.mp h with h | h
    · rw [h]
      split <;> simp
    · simp [h]
theorem dt_of_sc {H : Hp} {L : AS} {d : D} {u : V} (e : scV d = some u) : Dt H L u d := by
  cases d <;> simp [scV] at e <;> subst e
  · exact .non
  · exact .bl _
  · exact .int _
  · exact .str _
theorem bi_min (hc : X.calm = true) (hu : X.A.units + 65 < cLine) : CallR X (.builtin "min") (rBi "min") := by
  intro pins s σ H vs us Q I rv h
  obtain ⟨L, ds, nw, z, cs, hf, q⟩ := h
  have hf : s_min ds = some (nw, z) := hf
  revert cs
  unfold s_min at hf
  split at hf
  · intro cs
    cases cs with | cons c cs => cases cs with | cons c' cs => cases cs with | nil => cases c with | int i => cases c' with
    | int j =>
      cases hf
      exact call_min2 hc pins s σ H _ us Q I rv ⟨_, _, rfl, q _ _ (zn_dt (.int _))⟩
  · rename_i l _
    intro cs
    cases cs with | cons c cs => cases cs with | nil => cases c with
    | lst r s1 =>
      cases e : allO isInt l with
      | none =>
        rw [e] at hf
        dsimp only at hf
        split at hf
        · rename_i x xs _
          split at hf
          · rename_i hz
            cases hf
            simp only [Bool.and_eq_true] at hz
            obtain ⟨⟨z1, z2⟩, z3⟩ := hz
            obtain ⟨its, n, rl, hl, hg⟩ := (lstR I r).2
            obtain ⟨as, ra⟩ := Dp.readsAll I (x :: xs) _ its (Dts.dp (K := X.K) (x :: xs) _ (noDs_sc _ z3) s1) rl
            cases rv with | cons rx rr => cases rr with | nil =>
            cases rx
            refine PySem.W.min_list_data (vs := its.toArray) (I.ok.hd hc) (show s.heap.IsList _ its.toArray from ⟨_, hg, rfl, _, rfl⟩) ra ⟨fun a ha b hb => alk_at z1 ha hb, fun a ha => noN_at z2 ha⟩ (by rw [depth_sc _ z3]; omega) fun i v h' tk bs _ rd hk => ?_
            have hs := List.all_eq_true.mp z3 _ (minD_mem xs x)
            obtain ⟨u, e1, e2⟩ := reads_sc rd hs
            exact ⟨u, H, I.kept hk, e2, q _ _ (zn_dt (dt_of_sc e1))⟩
          · exact nomatch hf
        · exact nomatch hf
      | some ns =>
        rw [e] at hf
        have := ints_of s1 e
        subst this
        cases ns with
        | nil => exact nomatch hf
        | cons n ns =>
          cases hf
          obtain ⟨m1, m2⟩ := minF ns n
          refine cr_min hc pins s σ H _ us Q I rv ⟨_, n :: ns, rfl, .inl r, by simp, fun m hm hy => ?_⟩
          have e1 := hy _ m1
          have e2 := m2 m hm
          have e3 : m = ns.foldl (fun a b => if b < a then b else a) n := by omega
          rw [e3]
          exact q _ _ (zn_dt (.int _))
  · exact nomatch hf
theorem bi_max (hc : X.calm = true) : CallR X (.builtin "max") (rBi "max") := by
  intro pins s σ H vs us Q I rv h
  obtain ⟨L, ds, nw, z, cs, hf, q⟩ := h
  have hf : s_max ds = some (nw, z) := hf
  revert cs
  unfold s_max at hf
  split at hf
  · intro cs
    cases cs with | cons c cs => cases cs with | cons c' cs => cases cs with | nil => cases c with | int i => cases c' with
    | int j =>
      cases hf
      exact call_max2 hc pins s σ H _ us Q I rv ⟨_, _, rfl, q _ _ (zn_dt (.int _))⟩
  · rename_i l _
    intro cs
    cases cs with | cons c cs => cases cs with | nil => cases c with
    | lst r s1 =>
      cases e : allO isInt l with
      | none => rw [e] at hf; exact nomatch hf
      | some ns =>
        rw [e] at hf
        have := ints_of s1 e
        subst this
        cases ns with
        | nil => exact nomatch hf
        | cons n ns =>
          cases hf
          obtain ⟨m1, m2⟩ := maxF ns n
          refine cr_max hc pins s σ H _ us Q I rv ⟨_, n :: ns, rfl, .inl r, by simp, fun m hm hy => ?_⟩
          have e1 := hy _ m1
          have e2 := m2 m hm
          have e3 : m = ns.foldl (fun a b => if a < b then b else a) n := by omega
          rw [e3]
          exact q _ _ (zn_dt (.int _))
  · exact nomatch hf
theorem bi_int : CallR X (.type "int") (rBi "int") := by
  intro pins s σ H vs us Q I rv h
  obtain ⟨L, ds, nw, z, cs, hf, q⟩ := h
  have hf : s_int ds = some (nw, z) := hf
  revert cs
  unfold s_int at hf
  split at hf
  · intro cs
    cases cs with | cons c cs => cases cs with | nil => cases c with
    | int i =>
      cases hf
      exact call_int1 pins s σ H _ us Q I rv (.inl ⟨_, rfl, q _ _ (zn_dt (.int _))⟩)
  · intro cs
    cases cs with | cons c cs => cases cs with | nil => cases c with
    | bl b =>
      cases hf
      exact call_int1 pins s σ H _ us Q I rv (.inr ⟨_, rfl, q _ _ (zn_dt (.int _))⟩)
  · rename_i x _
    intro cs
    cases cs with | cons c cs => cases cs with | nil => cases c with
    | str _ =>
      cases e : digit x with
      | none => rw [e] at hf; exact nomatch hf
      | some i =>
        rw [e] at hf
        cases hf
        exact call_int_str pins s σ H _ us Q I rv ⟨_, _, rfl, (digit_text e).1, (digit_text e).2, q _ _ (zn_dt (.int _))⟩
  · exact nomatch hf
theorem bi_any (hc : X.calm = true) : CallR X (.builtin "any") (rBi "any") := by
  intro pins s σ H vs us Q I rv h
  obtain ⟨L, ds, nw, z, cs, hf, q⟩ := h
  have hf : s_any ds = some (nw, z) := hf
  revert cs
  unfold s_any at hf
  split at hf
  · rename_i l _
    intro cs
    cases cs with | cons c cs => cases cs with | nil => cases c with
    | lst r s1 =>
      cases e : allO isBl l with
      | none => rw [e] at hf; exact nomatch hf
      | some ns =>
        rw [e] at hf
        cases hf
        have := bls_of s1 e
        subst this
        exact cr_any hc pins s σ H _ us Q I rv ⟨_, _, rfl, .inl r, q _ _ (zn_dt (.bl _))⟩
  · exact nomatch hf
theorem bi_all (hc : X.calm = true) : CallR X (.builtin "all") (rBi "all") := by
  intro pins s σ H vs us Q I rv h
  obtain ⟨L, ds, nw, z, cs, hf, q⟩ := h
  have hf : s_all ds = some (nw, z) := hf
  revert cs
  unfold s_all at hf
  split at hf
  · rename_i l _
    intro cs
    cases cs with | cons c cs => cases cs with | nil => cases c with
    | lst r s1 =>
      cases e : allO isBl l with
      | none => rw [e] at hf; exact nomatch hf
      | some ns =>
        rw [e] at hf
        cases hf
        have := bls_of s1 e
        subst this
        exact cr_all hc pins s σ H _ us Q I rv ⟨_, _, rfl, .inl r, q _ _ (zn_dt (.bl _))⟩
  · exact nomatch hf
theorem bi_sorted (hc : X.calm = true) (hu : X.A.units + 65 < cLine) : CallR X (.builtin "sorted") (rBi "sorted") := by
  intro pins s σ H vs us Q I rv h
  obtain ⟨L, ds, nw, z, cs, hf, q⟩ := h
  have hf : s_sorted ds = some (nw, z) := hf
  revert cs
  unfold s_sorted at hf
  split at hf
  · rename_i l _
    intro cs
    cases cs with | cons c cs => cases cs with | nil => cases c with
    | lst r s1 =>
      cases e : allO isInt l with
      | none =>
        rw [e] at hf
        dsimp only at hf
        split at hf
        · rename_i hz
          cases hf
          simp only [Bool.and_eq_true, decide_eq_true_eq] at hz
          obtain ⟨⟨⟨z1, z2⟩, z3⟩, z4⟩ := hz
          obtain ⟨its, n, rl, hl, hg⟩ := (lstR I r).2
          cases rv with | cons rx rr => cases rr with | nil =>
          cases rx
          have rel := each_dts s1 rl
          have rds := each_reads I (noD_alk z1) s1 rl
          refine PySem.W.sorted_data (enc := fun d => d) (show s.heap.IsList _ its.toArray from ⟨_, hg, rfl, _, rfl⟩) rel rds (by rw [List.map_id']; exact fun a ha b hb => alk_at z1 ha hb) (by rw [List.map_id']; exact srtb_ok z2) (fits_le z4) (fun b hb => by have := depth_mem hb; omega) fun out hlo ro => ?_
          obtain ⟨ws, rw1, dw⟩ := each_back ro
          obtain ⟨ep, he'⟩ := PyProof.Rows.sortedAll_at s.heap its out.toArray
          have hlen : ws.length ≤ sizeLine := by rw [rw1.length, hlo]; exact fits_le z4
          refine ⟨.ref _, upd H (s.heap.objs.size + 1) (.lst ws), I.laid (t' := s.toks) (fun _ _ => PyProof.Rows.sortedAll_old) (Nat.le_succ _) ⟨hlen, out, ep, rw1, he'⟩, rfl, ?_⟩
          exact q _ _ (zn_new (I.hok.fresh (Nat.le_succ _)) dw)
        · exact nomatch hf
      | some ns =>
        rw [e] at hf
        dsimp only at hf
        split at hf
        · rename_i hz
          cases hf
          have := ints_of s1 e
          subst this
          refine cr_sorted pins s σ H _ us Q I rv ⟨_, _, rfl, .inl r, hz, fun ns' p hp hw hn => ?_⟩
          have e1 := sortI_uniq hp hw
          subst e1
          exact q _ _ (zn_new hn (ints_dts _))
        · exact nomatch hf
  · exact nomatch hf
theorem bi_str : CallR X (.type "str") (rBi "str") := by
  intro pins s σ H vs us Q I rv h
  obtain ⟨L, ds, nw, z, cs, hf, q⟩ := h
  have hf : s_str ds = some (nw, z) := hf
  revert cs
  unfold s_str at hf
  split at hf
  · rename_i i _
    intro cs
    cases cs with | cons c cs => cases cs with | nil => cases c with
    | int _ =>
      split at hf
      · rename_i hz
        cases hf
        have hz := of_decide_eq_true hz
        refine call_str_int pins s σ H _ us Q I rv ⟨_, rfl, ?_, q _ _ (zn_dt (.str _))⟩
        by_cases h0 : i.natAbs = 0
        · rw [h0]; decide
        · have := (Nat.log2_lt h0).mpr hz
          omega
      · cases hf
  · intro cs
    cases cs with | cons c cs => cases cs with | nil => cases c with
    | str _ =>
      cases hf
      exact SkE.call_str_str pins s σ H _ us Q I rv ⟨_, rfl, q _ _ (zn_dt (.str _))⟩
  · exact nomatch hf
theorem bi_ok (hc : X.calm = true) (hu : X.A.units + 65 < cLine) {f : Str} {u : Value} (h : biV f = some u) : CallR X u (rBi f) := by
  unfold biV at h
  split at h
  · rename_i e; subst e; cases h; exact bi_len
  split at h
  · rename_i e; subst e; cases h; exact bi_list hc
  split at h
  · rename_i e; subst e; cases h; exact bi_tuple hc
  split at h
  · rename_i e; subst e; cases h; exact bi_sum hc
  split at h
  · rename_i e; subst e; cases h; exact bi_min hc hu
  split at h
  · rename_i e; subst e; cases h; exact bi_max hc
  split at h
  · rename_i e; subst e; cases h; exact bi_int
  split at h
  · rename_i e; subst e; cases h; exact bi_any hc
  split at h
  · rename_i e; subst e; cases h; exact bi_all hc
  split at h
  · rename_i e; subst e; cases h; exact bi_sorted hc hu
  split at h
  · rename_i e; subst e; cases h; exact bi_str
  · exact nomatch h
end
end En

set_option Elab.async false
set_option linter.all false
set_option maxRecDepth 100000
set_option maxHeartbeats 4000000
namespace En
open PySem PySem.Spec PyProof.Rows L2

/-! ### what zip and enumerate take: a list, a tuple, a text -/
structure Src (v : Value) (xs : List V) (G : Hp → Prop) (o : Obj) (c : List Addr) (Os : Addr → Nat → Heap → Prop) : Prop where
  at0 : ∀ it h, h.get? it = some o → Os it 0 h
  obj : ∀ it i h, Os it i h → ∃ o, h.get? it = some o ∧ ∀ v, o.data ≠ .cell v
  keep : ∀ it i h h', Os it i h → (∀ o, h.get? it = some o → h'.get? it = some o) → Os it i h'
  now : ∀ {X : Cx} {pins : List (Addr × Obj)} {σ : L2.St} {H : Hp} {s : Shared}, Inv X pins σ H s → G H → (∀ b ∈ c, b < s.heap.objs.size) ∧ (∃ B, Begins v o B ∧ B s.heap) ∧
    ∃ (Ct : Heap → Prop) (P : Nat → Value → Prop), Ct s.heap ∧ (∀ A it, A.handled = none → it ∉ c → Draws X.prog X.w A it (it :: c) xs.length P (fun i h => Os it i h ∧ Ct h)) ∧ ∀ i u, P i u → ∃ x, xs[i]? = some x ∧ RelV x u
theorem vals_getU {xs : List V} {us : List Value} (r : Vals xs us) : ∀ {i : Nat} {u : Value}, us[i]? = some u → ∃ x, xs[i]? = some x ∧ RelV x u := by
  induction r with
  | nil => intro i u h; simp at h
  | cons a t ih =>
    intro i u h
    cases i with
    | zero => simp at h; subst h; exact ⟨_, rfl, a⟩
    | succ i => simpa using ih (i := i) (by simpa using h)
theorem src_list (a : Addr) (xs : List V) : Src (.ref a) xs (fun H => Rd H a (.lst xs)) { cls := .type "list_iterator", data := .fields #[.ref a, .int 0 0] } [a] (fun it i h => h.IsListIter it a i) where
  at0 := fun it h e => ⟨_, e, rfl, rfl⟩
  obj := fun it i h ⟨o, e, _, d⟩ => ⟨o, e, fun v q => by rw [d] at q; cases q⟩
  keep := fun it i h h' st k => st.at k
  now := fun {X pins σ H s} I g => by
    obtain ⟨its, rv, p, _⟩ := I.list (a := a) (xs := xs) (.inl g)
    refine ⟨fun b hb => by rw [List.mem_singleton.mp hb]; exact p.lt, ⟨_, begins_list a its.toArray, p.isList⟩, fun h => h.IsList a its.toArray, fun i v => its.toArray[i]? = some v, p.isList, fun A it hh hn => ?_, fun i u h => ?_⟩
    · have := Draws.list (prog := X.prog) (w := X.w) hh it a (fun e => hn (by simp [e])) its.toArray
      rw [show its.toArray.size = xs.length by simp [rv.length]] at this
      exact this
    · exact vals_getU rv (by simpa using h)
theorem src_tup (a : Addr) (xs : List V) : Src (.ref a) xs (fun H => Rd H a (.tup xs)) { cls := .type "tuple_iterator", data := .fields #[.ref a, .int 0 0] } [a] (fun it i h => h.IsTupleIter it a i) where
  at0 := fun it h e => ⟨_, e, rfl, rfl⟩
  obj := fun it i h ⟨o, e, _, d⟩ => ⟨o, e, fun v q => by rw [d] at q; cases q⟩
  keep := fun it i h h' st k => st.at k
  now := fun {X pins σ H s} I g => by
    obtain ⟨its, rv, p, _⟩ := I.tuple (a := a) (xs := xs) (.inl g)
    have p' : s.heap.IsTuple a its.toArray := p
    refine ⟨fun b hb => by rw [List.mem_singleton.mp hb]; exact p.lt, ⟨_, begins_tuple a its.toArray, p'⟩, fun h => h.IsTuple a its.toArray, fun i v => its.toArray[i]? = some v, p', fun A it hh hn => ?_, fun i u h => ?_⟩
    · have := Draws.tuple (prog := X.prog) (w := X.w) hh it a (fun e => hn (by simp [e])) its.toArray
      rw [show its.toArray.size = xs.length by simp [rv.length]] at this
      exact this
    · exact vals_getU rv (by simpa using h)
def signsV (x : Str) : List V := x.cps.toList.map fun c => .str ⟨#[c]⟩
theorem src_str (x : Str) (t : Tok) : Src (.str x t) (signsV x) (fun _ => True) { cls := .type (strIterType x), data := .fields #[.str x t, .int 0 0] } [] (fun it i h => h.IsStrIter it (strIterType x) x t i) where
  at0 := fun it h e => ⟨_, e, rfl, rfl⟩
  obj := fun it i h ⟨o, e, _, d⟩ => ⟨o, e, fun v q => by rw [d] at q; cases q⟩
  keep := fun it i h h' ⟨o, e, c, d⟩ k => ⟨o, k o e, c, d⟩
  now := fun {X pins σ H s} I g => by
    refine ⟨fun b hb => absurd hb (by simp), ⟨_, begins_text x t, trivial⟩, fun _ => True, fun i v => ∃ c u, x.cps[i]? = some c ∧ v = .str ⟨#[c]⟩ u, trivial, fun A it hh hn => ?_, fun i u h => ?_⟩
    · have := Draws.text (prog := X.prog) (w := X.w) hh it x t
      have el : (signsV x).length = x.cps.size := by simp [signsV]
      rw [el]
      exact ⟨fun i h st => this.live i h st.1, fun i h h' st k => ⟨this.frame i h h' st.1 k, trivial⟩, fun i s Q E hi st hQ => this.item i s Q E hi st.1 fun x h' tk p st' sb => hQ x h' tk p ⟨st', trivial⟩ sb, fun s Q E st hE => this.done s Q E st.1 hE⟩
    · obtain ⟨c, u', hc, rfl⟩ := h
      refine ⟨.str ⟨#[c]⟩, ?_, _, rfl⟩
      unfold signsV
      rw [List.getElem?_map, show x.cps.toList[i]? = x.cps[i]? by simp, hc]
      rfl
/-- a value as a source -/
def SrcOf (x : V) (xs : List V) (G : Hp → Prop) : Prop := ∀ v, RelV x v → ∃ o c Os, Src v xs G o c Os
theorem srcOf_list (a : Addr) (xs : List V) : SrcOf (.ref a) xs fun H => Rd H a (.lst xs) := fun v r => by cases r; exact ⟨_, _, _, src_list a xs⟩
theorem srcOf_tup (a : Addr) (xs : List V) : SrcOf (.ref a) xs fun H => Rd H a (.tup xs) := fun v r => by cases r; exact ⟨_, _, _, src_tup a xs⟩
theorem srcOf_str (x : Str) : SrcOf (.str x) (signsV x) fun _ => True := fun v r => by obtain ⟨t, rfl⟩ := r; exact ⟨_, _, _, src_str x t⟩

/-! ### zip of two, of three -/
def Jz2 (xs ys : List V) (G1 G2 : Hp → Prop) : It :=
  ⟨fun i H => i < xs.length ∧ i < ys.length ∧ G1 H ∧ G2 H, fun i H v H' => ∃ T x y, v = .ref T ∧ H T = none ∧ H' = upd H T (.tup [x, y]) ∧ xs[i]? = some x ∧ ys[i]? = some y,
    fun i H => i ≤ xs.length ∧ i ≤ ys.length ∧ (i = xs.length ∨ i = ys.length) ∧ G1 H ∧ G2 H⟩
theorem turn_z2 {P : Program} {w : World} {K : PySem.W.Frag} {elts : List Expr} {kk : Nat} {tpos : Pos} {z TI TO i1 i2 : Addr} {c1 c2 : List Addr} {v1 v2 : Value} {xs ys : List V} {G1 G2 : Hp → Prop} {o1 o2 : Obj} {Os1 Os2 : Addr → Nat → Heap → Prop}
    (B1 : Src v1 xs G1 o1 c1 Os1) (B2 : Src v2 ys G2 o2 c2 Os2) (S : ZipSep2 z TI TO i1 i2 (i1 :: c1) (i2 :: c2)) (n1 : i1 ∉ c1) (n2 : i2 ∉ c2) :
    Turn P w K (.Tuple elts kk tpos) (Jz2 xs ys G1 G2) [z, TI, TO, i1, i2] z (fun i h => IsZip h z TI TO .none ∧ IsTupOf2 h TI (.ref i1) (.ref i2) ∧ (∃ x y, IsTupOf2 h TO x y) ∧ Os1 i1 i h ∧ Os2 i2 i h) where
  mem := by simp
  obj := fun i h st c hc => by
    obtain ⟨hz, hTI, ⟨x, y, hTO⟩, h1, h2⟩ := st
    have e' : c = z ∨ c = TI ∨ c = TO ∨ c = i1 ∨ c = i2 := by simpa using hc
    rcases e' with q | q | q | q | q
    · rw [q]; exact ⟨_, hz, fun v q => nomatch q⟩
    · rw [q]; exact ⟨_, hTI, fun v q => nomatch q⟩
    · rw [q]; exact ⟨_, hTO, fun v q => nomatch q⟩
    · rw [q]; exact B1.obj _ _ _ h1
    · rw [q]; exact B2.obj _ _ _ h2
  keep := fun i h h' st k => by
    obtain ⟨hz, hTI, ⟨x, y, hTO⟩, h1, h2⟩ := st
    exact ⟨k z (by simp) _ hz, k TI (by simp) _ hTI, ⟨x, y, k TO (by simp) _ hTO⟩, B1.keep _ _ _ _ h1 fun o q => k i1 (by simp) o q, B2.keep _ _ _ _ h2 fun o q => k i2 (by simp) o q⟩
  item := by
    intro X hP hw hK hc i pins s σ H E I hf st hg
    subst hP hw hK
    obtain ⟨hz, hTI, ⟨x0, y0, hTO⟩, h1, h2⟩ := st
    obtain ⟨l1, l2, g1, g2⟩ := hg
    obtain ⟨_, _, C1, P1, hC1, D1, R1⟩ := B1.now I g1
    obtain ⟨_, _, C2, P2, hC2, D2, R2⟩ := B2.now I g2
    have hzl : z < s.heap.objs.size := Heap.lt_size hz
    have hh : X.A.in1.handled = none := I.ok.hd hc
    refine wpAny_pyNext_zipD2_item S (D1 X.A.in1 i1 hh n1) (D2 X.A.in1 i2 hh n2) hz hTI hTO ⟨h1, hC1⟩ ⟨h2, hC2⟩ l1 l2 fun u1 u2 h' tk p1 p2 z' TO' h1' h2' hT hsz hk => ?_
    obtain ⟨x, hx, ru⟩ := R1 i u1 p1
    obtain ⟨y, hy, ru2⟩ := R2 i u2 p2
    refine ⟨_, rfl, wpAny_letOwnedTupleGo_zip (s := { s with heap := h', toks := tk }) z' fun h'' z'' sb => ?_⟩
    have hT2 : h''.get? s.heap.objs.size = some { cls := .type "tuple", data := .seq #[u1, u2] } := (sb.2 _ (Nat.ne_of_gt hzl)).trans hT
    have new : ObjOk X.prog X.w (upd H s.heap.objs.size (.tup [x, y])) h'' s.heap.objs.size (.tup [x, y]) :=
      ⟨by show 2 ≤ sizeLine; decide, [u1, u2], .cons ru (.cons ru2 .nil), ⟨_, hT2, rfl, _, rfl⟩⟩
    have I1 : Inv X pins σ (upd H s.heap.objs.size (.tup [x, y])) { s with heap := h'', toks := tk } :=
      I.turnedNew (t' := tk) (ch := [z, TI, TO, i1, i2]) (fun c o hb q => (sb.2 c (fun q' => hb (by simp [q']))).trans (hk c o (fun q' => hb (by simp [q'])) (fun q' => hb (by simp [q'])) (fun q' => hb (by simp [q'])) (fun q' => hb (by simp [q'])) q)) hf (Nat.le_refl _) new
    refine ⟨.ref s.heap.objs.size, _, I1, rfl, ⟨_, x, y, rfl, I.hok.fresh (Nat.le_refl _), rfl, hx, hy⟩, ⟨z'', ?_, ⟨u1, u2, ?_⟩, ?_, ?_⟩, fun c hcm => ?_⟩
    · exact (sb.2 _ S.TIz).trans (hk _ _ S.TIz S.TITO S.TIi1 S.TIi2 hTI)
    · exact (sb.2 _ S.TOz).trans TO'
    · exact B1.keep _ _ _ _ h1'.1 fun o q => (sb.2 _ (Ne.symm S.zi1)).trans q
    · exact B2.keep _ _ _ _ h2'.1 fun o q => (sb.2 _ (Ne.symm S.zi2)).trans q
    · have hlt : c < s.heap.objs.size := by
        have e' : c = z ∨ c = TI ∨ c = TO ∨ c = i1 ∨ c = i2 := by simpa using hcm
        rcases e' with q | q | q | q | q
        · rw [q]; exact hzl
        · rw [q]; exact Heap.lt_size hTI
        · rw [q]; exact Heap.lt_size hTO
        · rw [q]; obtain ⟨_, e1, _⟩ := B1.obj _ _ _ h1; exact Heap.lt_size e1
        · rw [q]; obtain ⟨_, e1, _⟩ := B2.obj _ _ _ h2; exact Heap.lt_size e1
      rw [upd_ne (Nat.ne_of_lt hlt)]
      exact (hf c hcm).1
  done := by
    intro X hP hw hK hc i pins s σ H E I hf st hg
    subst hP hw hK
    obtain ⟨hz, hTI, ⟨x0, y0, hTO⟩, h1, h2⟩ := st
    obtain ⟨l1, l2, he, g1, g2⟩ := hg
    obtain ⟨_, _, C1, P1, hC1, D1, R1⟩ := B1.now I g1
    obtain ⟨_, _, C2, P2, hC2, D2, R2⟩ := B2.now I g2
    have hh : X.A.in1.handled = none := I.ok.hd hc
    exact wpAny_pyNext_zipD2_end S (D1 X.A.in1 i1 hh n1) (D2 X.A.in1 i2 hh n2) hz hTI hTO ⟨h1, hC1⟩ ⟨h2, hC2⟩ l1 l2 he fun h' tk hk => ⟨rfl, I.turnedL (t' := tk) (ch := [z, TI, TO, i1, i2]) (fun c o hb q =>
      hk c o (fun q' => hb (by simp [q'])) (fun q' => hb (by simp [q'])) (fun q' => hb (by simp [q'])) (fun q' => hb (by simp [q'])) q) hf⟩
  self := fun A i s Q E st h => wpAny_pyIter_zip st.1 h
def Jz3 (xs ys zs : List V) (G1 G2 G3 : Hp → Prop) : It :=
  ⟨fun i H => i < xs.length ∧ i < ys.length ∧ i < zs.length ∧ G1 H ∧ G2 H ∧ G3 H, fun i H v H' => ∃ T x y z, v = .ref T ∧ H T = none ∧ H' = upd H T (.tup [x, y, z]) ∧ xs[i]? = some x ∧ ys[i]? = some y ∧ zs[i]? = some z,
    fun i H => i ≤ xs.length ∧ i ≤ ys.length ∧ i ≤ zs.length ∧ (i = xs.length ∨ i = ys.length ∨ i = zs.length) ∧ G1 H ∧ G2 H ∧ G3 H⟩
theorem turn_z3 {P : Program} {w : World} {K : PySem.W.Frag} {elts : List Expr} {kk : Nat} {tpos : Pos} {z TI TO i1 i2 i3 : Addr} {c1 c2 c3 : List Addr} {v1 v2 v3 : Value} {xs ys zs : List V} {G1 G2 G3 : Hp → Prop} {o1 o2 o3 : Obj} {Os1 Os2 Os3 : Addr → Nat → Heap → Prop}
    (B1 : Src v1 xs G1 o1 c1 Os1) (B2 : Src v2 ys G2 o2 c2 Os2) (B3 : Src v3 zs G3 o3 c3 Os3) (S : ZipSep3 z TI TO i1 i2 i3 (i1 :: c1) (i2 :: c2) (i3 :: c3)) (n1 : i1 ∉ c1) (n2 : i2 ∉ c2) (n3 : i3 ∉ c3) :
    Turn P w K (.Tuple elts kk tpos) (Jz3 xs ys zs G1 G2 G3) [z, TI, TO, i1, i2, i3] z (fun i h => IsZip h z TI TO .none ∧ IsTupOf3 h TI (.ref i1) (.ref i2) (.ref i3) ∧ (∃ x y u, IsTupOf3 h TO x y u) ∧ Os1 i1 i h ∧ Os2 i2 i h ∧ Os3 i3 i h) where
  mem := by simp
  obj := fun i h st c hc => by
    obtain ⟨hz, hTI, ⟨x, y, u, hTO⟩, h1, h2, h3⟩ := st
    have e' : c = z ∨ c = TI ∨ c = TO ∨ c = i1 ∨ c = i2 ∨ c = i3 := by simpa using hc
    rcases e' with q | q | q | q | q | q
    · rw [q]; exact ⟨_, hz, fun v q => nomatch q⟩
    · rw [q]; exact ⟨_, hTI, fun v q => nomatch q⟩
    · rw [q]; exact ⟨_, hTO, fun v q => nomatch q⟩
    · rw [q]; exact B1.obj _ _ _ h1
    · rw [q]; exact B2.obj _ _ _ h2
    · rw [q]; exact B3.obj _ _ _ h3
  keep := fun i h h' st k => by
    obtain ⟨hz, hTI, ⟨x, y, u, hTO⟩, h1, h2, h3⟩ := st
    exact ⟨k z (by simp) _ hz, k TI (by simp) _ hTI, ⟨x, y, u, k TO (by simp) _ hTO⟩, B1.keep _ _ _ _ h1 fun o q => k i1 (by simp) o q, B2.keep _ _ _ _ h2 fun o q => k i2 (by simp) o q, B3.keep _ _ _ _ h3 fun o q => k i3 (by simp) o q⟩
  item := by
    intro X hP hw hK hc i pins s σ H E I hf st hg
    subst hP hw hK
    obtain ⟨hz, hTI, ⟨x0, y0, u0, hTO⟩, h1, h2, h3⟩ := st
    obtain ⟨l1, l2, l3, g1, g2, g3⟩ := hg
    obtain ⟨_, _, C1, P1, hC1, D1, R1⟩ := B1.now I g1
    obtain ⟨_, _, C2, P2, hC2, D2, R2⟩ := B2.now I g2
    obtain ⟨_, _, C3, P3, hC3, D3, R3⟩ := B3.now I g3
    have hzl : z < s.heap.objs.size := Heap.lt_size hz
    have hh : X.A.in1.handled = none := I.ok.hd hc
    refine wpAny_pyNext_zipD3_item S (D1 X.A.in1 i1 hh n1) (D2 X.A.in1 i2 hh n2) (D3 X.A.in1 i3 hh n3) hz hTI hTO ⟨h1, hC1⟩ ⟨h2, hC2⟩ ⟨h3, hC3⟩ l1 l2 l3 fun u1 u2 u3 h' tk p1 p2 p3 z' TO' h1' h2' h3' hT hsz hk => ?_
    obtain ⟨x, hx, ru⟩ := R1 i u1 p1
    obtain ⟨y, hy, ru2⟩ := R2 i u2 p2
    obtain ⟨y3, hy3, ru3⟩ := R3 i u3 p3
    refine ⟨_, rfl, wpAny_letOwnedTupleGo_zip (s := { s with heap := h', toks := tk }) z' fun h'' z'' sb => ?_⟩
    have hT2 : h''.get? s.heap.objs.size = some { cls := .type "tuple", data := .seq #[u1, u2, u3] } := (sb.2 _ (Nat.ne_of_gt hzl)).trans hT
    have new : ObjOk X.prog X.w (upd H s.heap.objs.size (.tup [x, y, y3])) h'' s.heap.objs.size (.tup [x, y, y3]) :=
      ⟨by show 3 ≤ sizeLine; decide, [u1, u2, u3], .cons ru (.cons ru2 (.cons ru3 .nil)), ⟨_, hT2, rfl, _, rfl⟩⟩
    have I1 : Inv X pins σ (upd H s.heap.objs.size (.tup [x, y, y3])) { s with heap := h'', toks := tk } :=
      I.turnedNew (t' := tk) (ch := [z, TI, TO, i1, i2, i3]) (fun c o hb q => (sb.2 c (fun q' => hb (by simp [q']))).trans (hk c o (fun q' => hb (by simp [q'])) (fun q' => hb (by simp [q'])) (fun q' => hb (by simp [q'])) (fun q' => hb (by simp [q'])) (fun q' => hb (by simp [q'])) q)) hf (Nat.le_refl _) new
    refine ⟨.ref s.heap.objs.size, _, I1, rfl, ⟨_, x, y, y3, rfl, I.hok.fresh (Nat.le_refl _), rfl, hx, hy, hy3⟩, ⟨z'', ?_, ⟨u1, u2, u3, ?_⟩, ?_, ?_, ?_⟩, fun c hcm => ?_⟩
    · exact (sb.2 _ S.TIz).trans (hk _ _ S.TIz S.TITO S.TIi1 S.TIi2 S.TIi3 hTI)
    · exact (sb.2 _ S.TOz).trans TO'
    · exact B1.keep _ _ _ _ h1'.1 fun o q => (sb.2 _ (Ne.symm S.zi1)).trans q
    · exact B2.keep _ _ _ _ h2'.1 fun o q => (sb.2 _ (Ne.symm S.zi2)).trans q
    · exact B3.keep _ _ _ _ h3'.1 fun o q => (sb.2 _ (Ne.symm S.zi3)).trans q
    · have hlt : c < s.heap.objs.size := by
        have e' : c = z ∨ c = TI ∨ c = TO ∨ c = i1 ∨ c = i2 ∨ c = i3 := by simpa using hcm
        rcases e' with q | q | q | q | q | q
        · rw [q]; exact hzl
        · rw [q]; exact Heap.lt_size hTI
        · rw [q]; exact Heap.lt_size hTO
        · rw [q]; obtain ⟨_, e1, _⟩ := B1.obj _ _ _ h1; exact Heap.lt_size e1
        · rw [q]; obtain ⟨_, e1, _⟩ := B2.obj _ _ _ h2; exact Heap.lt_size e1
        · rw [q]; obtain ⟨_, e1, _⟩ := B3.obj _ _ _ h3; exact Heap.lt_size e1
      rw [upd_ne (Nat.ne_of_lt hlt)]
      exact (hf c hcm).1
  done := by
    intro X hP hw hK hc i pins s σ H E I hf st hg
    subst hP hw hK
    obtain ⟨hz, hTI, ⟨x0, y0, u0, hTO⟩, h1, h2, h3⟩ := st
    obtain ⟨l1, l2, l3, he, g1, g2, g3⟩ := hg
    obtain ⟨_, _, C1, P1, hC1, D1, R1⟩ := B1.now I g1
    obtain ⟨_, _, C2, P2, hC2, D2, R2⟩ := B2.now I g2
    obtain ⟨_, _, C3, P3, hC3, D3, R3⟩ := B3.now I g3
    have hh : X.A.in1.handled = none := I.ok.hd hc
    exact wpAny_pyNext_zipD3_end S (D1 X.A.in1 i1 hh n1) (D2 X.A.in1 i2 hh n2) (D3 X.A.in1 i3 hh n3) hz hTI hTO ⟨h1, hC1⟩ ⟨h2, hC2⟩ ⟨h3, hC3⟩ l1 l2 l3 he fun h' tk hk => ⟨rfl, I.turnedL (t' := tk) (ch := [z, TI, TO, i1, i2, i3]) (fun c o hb q =>
      hk c o (fun q' => hb (by simp [q'])) (fun q' => hb (by simp [q'])) (fun q' => hb (by simp [q'])) (fun q' => hb (by simp [q'])) (fun q' => hb (by simp [q'])) q) hf⟩
  self := fun A i s Q E st h => wpAny_pyIter_zip st.1 h
/-! ### enumerate -/
def Jen (xs : List V) (G1 : Hp → Prop) : It :=
  ⟨fun i H => i < xs.length ∧ G1 H, fun i H v H' => ∃ T x, v = .ref T ∧ H T = none ∧ H' = upd H T (.tup [.int (i : Nat), x]) ∧ xs[i]? = some x, fun i H => i = xs.length ∧ G1 H⟩
theorem turn_en {P : Program} {w : World} {K : PySem.W.Frag} {elts : List Expr} {kk : Nat} {tpos : Pos} {e it : Addr} {c1 : List Addr} {v1 : Value} {xs : List V} {G1 : Hp → Prop} {o1 : Obj} {Os1 : Addr → Nat → Heap → Prop}
    (B1 : Src v1 xs G1 o1 c1 Os1) (n1 : it ∉ c1) (hne : e ≠ it) (hec : e ∉ c1) :
    Turn P w K (.Tuple elts kk tpos) (Jen xs G1) [e, it] e (fun i h => (∃ old, IsEnum h e it ((i : Nat) : Int) old) ∧ Os1 it i h) where
  mem := by simp
  obj := fun i h st b hb => by
    obtain ⟨⟨old, he⟩, h1⟩ := st
    have e' : b = e ∨ b = it := by simpa using hb
    rcases e' with z | z
    · rw [z]; exact ⟨_, he, fun v q => nomatch q⟩
    · rw [z]; exact B1.obj _ _ _ h1
  keep := fun i h h' st k => let ⟨⟨old, he⟩, hi⟩ := st; ⟨⟨old, k e (by simp) _ he⟩, B1.keep _ _ _ _ hi fun o q => k it (by simp) o q⟩
  item := by
    intro X hP hw hK hc i pins s σ H E I hf st hg
    subst hP hw hK
    obtain ⟨⟨old, he⟩, h1⟩ := st
    obtain ⟨l1, g1⟩ := hg
    obtain ⟨_, _, C1, P1, hC1, D1, R1⟩ := B1.now I g1
    have hh : X.A.in1.handled = none := I.ok.hd hc
    have hel : e < s.heap.objs.size := Heap.lt_size he
    have hil : it < s.heap.objs.size := by obtain ⟨_, q, _⟩ := B1.obj _ _ _ h1; exact Heap.lt_size q
    have hef : e ∉ it :: c1 := fun q => by
      rcases List.mem_cons.mp q with q | q
      · exact hne q
      · exact hec q
    refine wpAny_pyNext_enum_itemD (D1 X.A.in1 it hh n1) he ⟨h1, hC1⟩ l1 hne hef fun u h' tk p1 ho st' hT hsz hk => ?_
    obtain ⟨x, hx, ru⟩ := R1 i u p1
    refine ⟨_, rfl, wpAny_letOwnedTupleGo_enum (s := { s with heap := h', toks := tk + 1 }) ho fun h'' he' sb => ?_⟩
    have hT2 : h''.get? s.heap.objs.size = some { cls := .type "tuple", data := .seq #[.int i tk, u] } := (sb.2 _ (Nat.ne_of_gt hel)).trans hT
    have new : ObjOk X.prog X.w (upd H s.heap.objs.size (.tup [.int (i : Nat), x])) h'' s.heap.objs.size (.tup [.int (i : Nat), x]) :=
      ⟨by show 2 ≤ sizeLine; decide, [.int i tk, u], .cons ⟨_, rfl⟩ (.cons ru .nil), ⟨_, hT2, rfl, _, rfl⟩⟩
    have I1 : Inv X pins σ (upd H s.heap.objs.size (.tup [.int (i : Nat), x])) { s with heap := h'', toks := tk + 1 } :=
      I.turnedNew (ch := [e, it]) (fun b ob hb q => (sb.2 b (fun z => hb (by simp [z]))).trans (hk b ob (fun z => hb (by simp [z])) (fun z => hb (by simp [z])) q)) hf (Nat.le_refl _) new
    refine ⟨.ref s.heap.objs.size, _, I1, rfl, ⟨_, x, rfl, I.hok.fresh (Nat.le_refl _), rfl, hx⟩, ⟨⟨u, ?_⟩, B1.keep _ _ _ _ st'.1 fun o q => (sb.2 it (Ne.symm hne)).trans q⟩, fun b hb => ?_⟩
    · have e1 : ((i + 1 : Nat) : Int) = (i : Int) + 1 := by omega
      rw [e1]; exact he'
    · have hb' : b < s.heap.objs.size := by
        have e' : b = e ∨ b = it := by simpa using hb
        rcases e' with z | z
        · rw [z]; exact hel
        · rw [z]; exact hil
      rw [upd_ne (Nat.ne_of_lt hb')]
      exact (hf b hb).1
  done := by
    intro X hP hw hK hc i pins s σ H E I hf st hg
    subst hP hw hK
    obtain ⟨⟨old, he⟩, h1⟩ := st
    obtain ⟨l1, g1⟩ := hg
    subst l1
    obtain ⟨_, _, C1, P1, hC1, D1, R1⟩ := B1.now I g1
    have hh : X.A.in1.handled = none := I.ok.hd hc
    exact wpAny_pyNext_enum_endD (D1 X.A.in1 it hh n1) he ⟨h1, hC1⟩ fun h' eb => ⟨rfl, I.turnedL (t' := s.toks) (ch := [e, it]) (fun b o hb q => eb b o (fun z => hb (by simp [z])) q) hf⟩
  self := fun A i s Q E st h => by
    obtain ⟨⟨old, he⟩, _⟩ := st
    exact wpAny_pyIter_enum he h
end En

set_option Elab.async false
set_option linter.all false
set_option maxRecDepth 100000
set_option maxHeartbeats 4000000
namespace En
open PySem PySem.Spec PyProof.Rows L2

/-! ### the state: H0, M0 at the def's entry (M0: what others may change), H, M now -/
def Lm (H0 : Hp) (M : AS) (m : Bool) : AS := fun a => ¬ M a ∧ (m = false → H0 a = none)
theorem Lm.le {H0 : Hp} {M : AS} {m m' : Bool} (h : m = true → m' = true) {a : Addr} (q : Lm H0 M m a) : Lm H0 M m' a := ⟨q.1, fun e => q.2 (by cases m with
  | false => rfl
  | true => rw [h rfl] at e; cases e)⟩
theorem Lm.orl {H0 : Hp} {M : AS} {m m' : Bool} {a : Addr} (q : Lm H0 M m a) : Lm H0 M (m || m') a := q.le fun e => by simp [e]
theorem Lm.orr {H0 : Hp} {M : AS} {m m' : Bool} {a : Addr} (q : Lm H0 M m' a) : Lm H0 M (m || m') a := q.le fun e => by simp [e]
/-- an object of one's own -/
inductive Ob (H : Hp) (L : AS) (a : Addr) : D → Prop
  | lst {xs : List V} {ds : List D} : H a = some (.lst xs) → Dts H L xs ds → Ob H L a (.list ds)
  | dK {kvs : List (Key × V)} {es : List (D × D)} : H a = some (.dK kvs) → es.map (·.1) = kvs.map (fun kv => keyD kv.1) → Dvs H L (kvs.map (·.2)) es → Ob H L a (.dict es)
  | dT {kvs : List (List Key × V)} {es : List (D × D)} : H a = some (.dT kvs) → es.map (·.1) = .none :: kvs.map (fun kv => keyT kv.1) → Dvs H L (.non :: kvs.map (·.2)) es → Ob H L a (.dict es)
theorem Ob.go {H H' : Hp} {L L' : AS} {a : Addr} {d : D} (h : Ob H L a d) (ha : H' a = H a) (hl : ∀ a u, L a → H a = some u → H' a = some u ∧ L' a) (ht : ∀ a xs, H a = some (.tup xs) → H' a = some (.tup xs)) : Ob H' L' a d := by
  cases h with
  | lst e s => exact .lst (ha.trans e) (Dts.go hl ht _ _ s)
  | dK e k s => exact .dK (ha.trans e) k (Dvs.go hl ht _ _ s)
  | dT e k s => exact .dT (ha.trans e) k (Dvs.go hl ht _ _ s)
theorem Ob.there {H : Hp} {L : AS} {a : Addr} {d : D} (h : Ob H L a d) : ∃ o, H a = some o ∧ Mut (some o) := by
  cases h with
  | lst e s => exact ⟨_, e, trivial⟩
  | dK e k s => exact ⟨_, e, trivial⟩
  | dT e k s => exact ⟨_, e, trivial⟩
theorem sm_ob {H H' : Hp} {L : AS} (e : Same H H') {a : Addr} {d : D} (h : Ob H L a d) : Ob H' L a d := by
  obtain ⟨o, q, _⟩ := h.there
  exact h.go ((e _ _ q).trans q.symm) (fun _ _ l r => ⟨e _ _ r, l⟩) fun _ _ r => e _ _ r
theorem Ob.wk {H : Hp} {L L' : AS} (l : ∀ a, L a → L' a) {a : Addr} {d : D} (h : Ob H L a d) : Ob H L' a d := h.go rfl (fun a _ q r => ⟨r, l a q⟩) fun _ _ r => r
theorem Ob.cn {H : Hp} {L : AS} {a : Addr} {d : D} (h : Ob H L a d) : Cn H L (.ref a) d := by
  cases h with
  | lst e s => exact .lst (.inl e) s
  | dK e k s => exact .dK e k s
  | dT e k s => exact .dT e k s
theorem Ob.dt {H : Hp} {L : AS} {a : Addr} {d : D} (h : Ob H L a d) (l : L a) : Dt H L (.ref a) d := by
  cases h with
  | lst e s => exact .lst l (.inl e) s
  | dK e k s => exact .dK l e k s
  | dT e k s => exact .dT l e k s

def SlOk (H0 H : Hp) (M : AS) (o : Option (Option V)) : Sl → Prop
  | .no => True
  | .fr m d => ∃ v, o = some (some v) ∧ Dt H (Lm H0 M m) v d
  | .ow m d => ∃ a, o = some (some (.ref a)) ∧ M a ∧ H0 a = none ∧ Ob H (Lm H0 M m) a d
  | .pt v => o = some (some v)
  | .kn v m d => o = some (some v) ∧ Dt H (Lm H0 M m) v d
  | .ko a m d => o = some (some (.ref a)) ∧ M a ∧ H0 a = none ∧ Ob H (Lm H0 M m) a d
/-- what is one's own, its place known or not -/
theorem SlOk.own {H0 H : Hp} {M : AS} {o : Option (Option V)} {s : Sl} {oa : Option Addr} {m : Bool} {d : D} (h : SlOk H0 H M o s) (e : ownAt (some s) = some (oa, m, d)) : ∃ a, o = some (some (.ref a)) ∧ M a ∧ H0 a = none ∧ Ob H (Lm H0 M m) a d ∧ ∀ b, oa = some b → b = a := by
  cases s <;> simp [ownAt] at e
  · obtain ⟨rfl, rfl, rfl⟩ := e
    obtain ⟨a, h1, h2, h3, h4⟩ := h
    exact ⟨a, h1, h2, h3, h4, fun b z => by cases z⟩
  · obtain ⟨rfl, rfl, rfl⟩ := e
    obtain ⟨h1, h2, h3, h4⟩ := h
    exact ⟨_, h1, h2, h3, h4, fun b z => by cases z; rfl⟩
theorem SlOk.reow {H0 H : Hp} {M : AS} {o : Option (Option V)} {oa : Option Addr} {m : Bool} {d : D} {a : Addr} (h1 : o = some (some (.ref a))) (h2 : M a) (h3 : H0 a = none) (h4 : Ob H (Lm H0 M m) a d) (h5 : ∀ b, oa = some b → b = a) : SlOk H0 H M o (En.reow oa m d) := by
  cases oa with
  | none => exact ⟨a, h1, h2, h3, h4⟩
  | some b =>
    have := h5 b rfl
    subst this
    exact ⟨h1, h2, h3, h4⟩
structure EnvOk (H0 : Hp) (M0 : AS) (H : Hp) (M : AS) (σ : List (Option V)) (env : List Sl) : Prop where
  len : σ.length = env.length
  same : Same H0 H
  m0 : ∀ a, M0 a → M a ∧ H0 a ≠ none
  dom : ∀ a, M a → ∃ o, H a = some o ∧ Mut (some o)
  sl : ∀ (i : Nat) (s : Sl), env[i]? = some s → SlOk H0 H M (σ[i]?) s
  dis : ∀ (i j : Nat) (a : Addr), (ownAt env[i]?).isSome = true → (ownAt env[j]?).isSome = true → σ[i]? = some (some (.ref a)) → σ[j]? = some (some (.ref a)) → i = j
theorem SlOk.same {H0 H H' : Hp} {M : AS} {o : Option (Option V)} {s : Sl} (e : Same H H') (h : SlOk H0 H M o s) : SlOk H0 H' M o s := by
  cases s with
  | no => trivial
  | fr m d => obtain ⟨v, q, t⟩ := h; exact ⟨v, q, sm_dt e t⟩
  | ow m d => obtain ⟨a, q, x, y, t⟩ := h; exact ⟨a, q, x, y, sm_ob e t⟩
  | pt v => exact h
  | kn v m d => exact ⟨h.1, sm_dt e h.2⟩
  | ko a m d => exact ⟨h.1, h.2.1, h.2.2.1, sm_ob e h.2.2.2⟩
theorem EnvOk.up {H0 : Hp} {M0 : AS} {H H' : Hp} {M : AS} {σ : L2.St} {env : List Sl} (h : EnvOk H0 M0 H M σ env) (e : Same H H') : EnvOk H0 M0 H' M σ env :=
  ⟨h.len, h.same.trans e, h.m0, fun a m => let ⟨o, q, t⟩ := h.dom a m; ⟨o, e _ _ q, t⟩, fun i s q => (h.sl i s q).same e, h.dis⟩
theorem EnvOk.fresh {H0 : Hp} {M0 : AS} {H : Hp} {M : AS} {σ : L2.St} {env : List Sl} (h : EnvOk H0 M0 H M σ env) {a : Addr} (e : H a = none) : ¬ M a ∧ H0 a = none :=
  ⟨fun m => (by obtain ⟨o, q, _⟩ := h.dom a m; rw [e] at q; cases q), h.same.free e⟩

def RvOk (H0 : Hp) (M : AS) (Hs H : Hp) (v : V) : Rv → Prop
  | .fr m d => Dt H (Lm H0 M m) v d
  | .ow m d => ∃ a, v = .ref a ∧ Hs a = none ∧ ¬ M a ∧ H0 a = none ∧ Ob H (fun b => Lm H0 M m b ∧ b ≠ a) a d
  | .bo m d => Cn H (Lm H0 M m) v d
  | .mt _ _ => False
theorem RvOk.same {H0 : Hp} {M : AS} {Hs H H' : Hp} {v : V} {r : Rv} (e : Same H H') (h : RvOk H0 M Hs H v r) : RvOk H0 M Hs H' v r := by
  cases r with
  | fr m d => exact sm_dt e h
  | ow m d => obtain ⟨a, x, y, z, u, t⟩ := h; exact ⟨a, x, y, z, u, sm_ob e t⟩
  | bo m d => exact sm_cn e h
  | mt _ _ => exact h.elim
theorem RvOk.back {H0 : Hp} {M : AS} {Hs Hs' H : Hp} {v : V} {r : Rv} (e : Same Hs' Hs) (h : RvOk H0 M Hs H v r) : RvOk H0 M Hs' H v r := by
  cases r with
  | fr m d => exact h
  | ow m d => obtain ⟨a, x, y, z, u, t⟩ := h; exact ⟨a, x, e.free y, z, u, t⟩
  | bo m d => exact h
  | mt _ _ => exact h.elim
theorem RvOk.cn {H0 : Hp} {M : AS} {Hs H : Hp} {v : V} {r : Rv} (h : RvOk H0 M Hs H v r) : Cn H (Lm H0 M r.m) v r.d := by
  cases r with
  | fr m d => exact Dt.cn h
  | ow m d => obtain ⟨a, rfl, _, _, _, t⟩ := h; exact (t.wk fun _ q => q.1).cn
  | bo m d => exact h
  | mt _ _ => exact h.elim
/-- it is put away -/
theorem RvOk.sto {H0 : Hp} {M : AS} {Hs H : Hp} {v : V} {r : Rv} {p : Bool × D} (h : RvOk H0 M Hs H v r) (e : En.sto r = .ok p) : Dt H (Lm H0 M p.1) v p.2 := by
  have fin : ∀ {m : Bool} {d : D}, Dt H (Lm H0 M m) v d → Dt H (Lm H0 M (m && !imm d)) v d := fun {m d} t => by
    cases q : imm d with
    | true => exact Dt.imm d v q t
    | false => simpa using t
  cases r with
  | fr m d => cases e; exact fin h
  | ow m d =>
    cases e
    obtain ⟨a, rfl, _, y, u, t⟩ := h
    exact fin ((t.wk (L' := Lm H0 M m) fun _ q => q.1).dt ⟨y, fun _ => u⟩)
  | bo m d => cases e
  | mt _ _ => cases e
theorem zn_rv {H0 : Hp} {M0 : AS} {Hs H H' : Hp} {M : AS} {σ : L2.St} {env : List Sl} {v : V} {nw : Bool} {z : D} {m : Bool} (ok : EnvOk H0 M0 H M σ env) (e : Same Hs H) (h : Zn H (Lm H0 M m) H' v nw z) : RvOk H0 M Hs H' v (mk m nw z) := by
  obtain ⟨s, h⟩ := h
  unfold mk
  cases nw with
  | true =>
    rw [if_pos rfl] at h ⊢
    obtain ⟨p, xs, ds, rfl, hp, rfl, q, t⟩ := h
    exact ⟨p, rfl, e.free hp, (ok.fresh hp).1, (ok.fresh hp).2, .lst q t⟩
  | false =>
    rw [if_neg (by simp)] at h ⊢
    show Dt H' (Lm H0 M (m && !sc z)) v z
    cases q : sc z with
    | true => exact h.cn.dt_sc q
    | false => simpa using h

/-! ### what is wanted behind a run -/
section
variable (E : XK) (mg : Str → Option Value)
def Rp {α : Type} (H : Hp) (r : R α) (k : α → Prop) : Prop := match r with
  | .bad => False
  | .err x => ∀ C H', mg x = some (.ref C) → Same H H' → E (.ref C) none H'
  | .ok a => k a
end
section
variable {E : XK} {mg : Str → Option Value}
theorem Rp.bind {α β : Type} {H : Hp} {r : R α} {f : α → R β} {k : β → Prop} (h : Rp E mg H (r.bind f) k) : Rp E mg H r fun a => Rp E mg H (f a) k := by
  cases r with
  | bad => exact h
  | err x => exact h
  | ok a => exact h
theorem Rp.of_bind {α β : Type} {H : Hp} {r : R α} {f : α → R β} {k : β → Prop} (h : Rp E mg H r fun a => Rp E mg H (f a) k) : Rp E mg H (r.bind f) k := by
  cases r with
  | bad => exact h
  | err x => exact h
  | ok a => exact h
theorem Rp.imp {α : Type} {H : Hp} {r : R α} {k k' : α → Prop} (h : Rp E mg H r k) (i : ∀ a, r = .ok a → k a → k' a) : Rp E mg H r k' := by
  cases r with
  | bad => exact h
  | err x => exact h
  | ok a => exact i a rfl h
theorem Rp.same {α : Type} {H H1 : Hp} {r : R α} {k : α → Prop} (h : Rp E mg H r k) (e : Same H H1) : Rp E mg H1 r k := by
  cases r with
  | bad => exact h
  | err x => exact fun C H' q s => h C H' q (e.trans s)
  | ok a => exact h
theorem Rp.ok {α : Type} {H : Hp} {a : α} {k : α → Prop} (h : Rp E mg H (.ok a) k) : k a := h
theorem Rp.lift {H : Hp} {m : Bool} {o : Option (Bool × D)} {k : Rv → Prop} (h : Rp E mg H (En.lift m o) k) : ∃ nw z, o = some (nw, z) ∧ k (mk m nw z) := by
  cases o with
  | none => exact False.elim h
  | some p => exact ⟨p.1, p.2, rfl, h⟩
theorem Rp.liftB {H : Hp} {o : Option Bool} {k : Rv → Prop} (h : Rp E mg H (En.liftB o) k) : ∃ b, o = some b ∧ k (.fr false (.bool b)) := by
  cases o with
  | none => exact False.elim h
  | some p => exact ⟨p, rfl, h⟩
end

/-! ### a def's promise, by data -/
/-- what is handed in to be changed: at places of its own -/
structure MutIn (H : Hp) (M : AS) (mask : List Nat) (as : List Addr) (vs : List V) (ds : List D) : Prop where
  len : as.length = mask.length
  nd : as.Nodup
  at_ : ∀ (i p : Nat) (a : Addr), mask[i]? = some p → as[i]? = some a → vs[p]? = some (.ref a) ∧ ∃ d, ds[p]? = some d ∧ Ob H (fun b => ¬ M b ∧ b ∉ as) a d
  out : ∀ (p : Nat) (v : V) (d : D), p ∉ mask → vs[p]? = some v → ds[p]? = some d → Dt H (fun b => ¬ M b ∧ b ∉ as) v d
  nm : ∀ a ∈ as, ¬ M a
def MutOut (H : Hp) (M : AS) (as : List Addr) (news : List (Bool × D)) (H' : Hp) : Prop :=
  (∀ c u, c ∉ as → H c = some u → H' c = some u) ∧ ∀ (i : Nat) (a : Addr) (m : Bool) (d : D), as[i]? = some a → news[i]? = some (m, d) → Ob H' (fun b => Lm H M m b ∧ b ∉ as) a d
def RetOk (H : Hp) (M : AS) (vs : List V) (ds : List D) (Q : VK) : Rv → Prop
  | .mt mask news => ∃ as, MutIn H M mask as vs ds ∧ ∀ H', MutOut H M as news H' → Q .non H'
  | .fr m d => ∀ v H', Same H H' → RvOk H M H H' v (.fr m d) → Q v H'
  | .ow m d => ∀ v H', Same H H' → RvOk H M H H' v (.ow m d) → Q v H'
  | .bo m d => ∀ v H', Same H H' → RvOk H M H H' v (.bo m d) → Q v H'
theorem RetOk.get {H : Hp} {M : AS} {vs : List V} {ds : List D} {Q : VK} {r : Rv} (h : RetOk H M vs ds Q r) : ∀ v H', Same H H' → RvOk H M H H' v r → Q v H' := by
  cases r with
  | fr m d => exact h
  | ow m d => exact h
  | bo m d => exact h
  | mt _ _ => exact fun v H' s q => q.elim
theorem RetOk.mk {H : Hp} {M : AS} {vs : List V} {ds : List D} {Q : VK} {r : Rv} (h : ∀ v H', Same H H' → RvOk H M H H' v r → Q v H') (n : ∀ mask news, r ≠ .mt mask news) : RetOk H M vs ds Q r := by
  cases r with
  | fr m d => exact h
  | ow m d => exact h
  | bo m d => exact h
  | mt _ _ => exact absurd rfl (n _ _)
def spG (mg : Str → Option Value) (n : Nat) (g : List D → R Rv) : Sp := fun vs H Q E => vs.length = n ∧ ∃ (M : AS) (ds : List D), (∀ a, M a → ∃ o, H a = some o ∧ Mut (some o)) ∧ Dts H (fun a => ¬ M a) vs ds ∧
  Rp E mg H (g ds) (RetOk H M vs ds Q)
structure Ok (X : Cx) (Γ : FT) (E : XK) (k : Nat) : Prop where
  calm : X.calm = true
  nd : X.N.Nodup
  hu : X.A.units + 65 < cLine
  room : Room (k + 2) X.A
  tk : Takes X (fun c d _ H => E c d H)
  blt : ∀ f : Str, f ∈ ([("len" : Str), "list", "tuple", "sum", "min", "max", "int", "any", "all", "sorted", "isinstance", "range", "zip", "enumerate", "reversed", "str", "bool", "set", "dict"] : List Str) → X.mg f = none
  fns : ∀ f n g, Γ f = some (n, g) → ∃ fa fd ps, FnOk X.prog X.w X.K X.mg X.base (L2.CX X.prog X.w) k fa fd ps (spG X.mg n g) ∧ X.mg f = some (.ref fa) ∧ PySem.W.keepIn X.K (.ref fa) = true ∧ Binds X.K fd ps []

/-! ### readings -/
section
variable (Γ : FT) (E : XK) (mg : Str → Option Value)
def tE (m : ME) : TE := fun σ H Q => ∃ H0 M0 M env, EnvOk H0 M0 H M σ env ∧ Rp E mg H (evE Γ env m) fun r => ∀ v H', Same H H' → RvOk H0 M H H' v r → Q v H'
def tT (m : ME) : TT := fun σ H Q => ∃ H0 M0 M env, EnvOk H0 M0 H M σ env ∧ Rp E mg H ((evE Γ env m).bind truth) fun b => ∀ H', Same H H' → Q b H'
inductive RvOks (H0 : Hp) (M : AS) (Hs H : Hp) : List V → List Rv → Prop
  | nil : RvOks H0 M Hs H [] []
  | cons {v : V} {vs : List V} {r : Rv} {rs : List Rv} : RvOk H0 M Hs H v r → RvOks H0 M Hs H vs rs → RvOks H0 M Hs H (v :: vs) (r :: rs)
def tEs (ms : MEs) : TA := fun σ H Q => ∃ H0 M0 M env, EnvOk H0 M0 H M σ env ∧ Rp E mg H (evEs Γ env ms) fun rs => ∀ vs H', Same H H' → RvOks H0 M H H' vs rs → Q vs H'
def tO (m : MO) : TO := fun σ H Q => ∃ H0 M0 M env, EnvOk H0 M0 H M σ env ∧ Rp E mg H (evO Γ env m) fun o => ∀ H', Same H H' → Q o H'
def tC (m : MO) : TT := fun σ H Q => ∃ H0 M0 M env, EnvOk H0 M0 H M σ env ∧ Rp E mg H (evC Γ env m) fun b => ∀ H', Same H H' → Q b H'
end
theorem RvOks.length {H0 : Hp} {M : AS} {Hs H : Hp} {vs : List V} {rs : List Rv} (h : RvOks H0 M Hs H vs rs) : vs.length = rs.length := by
  induction h with
  | nil => rfl
  | cons _ _ ih => rw [List.length_cons, List.length_cons, ih]
theorem anyM_mem {rs : List Rv} {r : Rv} (h : r ∈ rs) (e : r.m = true) : anyM rs = true := by
  induction rs with
  | nil => simp at h
  | cons a t ih =>
    unfold anyM
    rcases List.mem_cons.mp h with h | h
    · subst h; simp [e]
    · simp [ih h]
theorem RvOks.cns {H0 : Hp} {M : AS} {Hs H : Hp} {m : Bool} : ∀ {vs : List V} {rs : List Rv}, RvOks H0 M Hs H vs rs → (∀ r ∈ rs, r.m = true → m = true) → Cns H (Lm H0 M m) vs (rs.map Rv.d)
  | _, _, .nil, _ => .nil
  | _, _, .cons a t, h => .cons (a.cn.wk fun _ q => q.le (h _ List.mem_cons_self)) (t.cns fun r hr => h r (List.mem_cons_of_mem _ hr))
theorem RvOks.stos {H0 : Hp} {M : AS} {Hs H : Hp} : ∀ {vs : List V} {rs : List Rv} {p : Bool × List D}, RvOks H0 M Hs H vs rs → En.stos rs = .ok p → Dts H (Lm H0 M p.1) vs p.2
  | _, _, _, .nil, e => by cases e; exact .nil
  | _, _, _, .cons (r := r) (rs := rs) a t, e => by
    unfold En.stos at e
    cases e1 : En.sto r with
    | bad => rw [e1] at e; cases e
    | err x => rw [e1] at e; cases e
    | ok q =>
      cases e2 : En.stos rs with
      | bad => rw [e1, e2] at e; cases e
      | err x => rw [e1, e2] at e; cases e
      | ok u =>
        rw [e1, e2] at e
        cases e
        exact .cons ((a.sto e1).wk fun _ q => q.orl) ((t.stos e2).wk fun _ q => q.orr)

/-! ### walks over data -/
def Kp (H1 : Hp) (L : AS) (H : Hp) (L2 : AS) : Prop := (∀ a u, L a → H1 a = some u → H a = some u ∧ L2 a) ∧ ∀ a xs, H1 a = some (.tup xs) → H a = some (.tup xs)
theorem Kp.dt {H1 H : Hp} {L L2 : AS} (k : Kp H1 L H L2) {v : V} {d : D} (h : Dt H1 L v d) : Dt H L2 v d := Dt.go k.1 k.2 d v h
theorem Kp.rd {H1 H : Hp} {L L2 : AS} (k : Kp H1 L H L2) {a : Addr} {xs : List V} (l : L a) (h : Rd H1 a (.lst xs)) : Rd H a (.lst xs) := h.elim (fun e => .inl (k.1 _ _ l e).1) fun ⟨o, e⟩ => .inr ⟨o, (k.1 _ _ l e).1⟩
def Wk (H1 : Hp) (L : AS) (J : It) (ds : List D) : Prop := ∃ (G : Hp → Prop) (Y : Nat → Hp → V → Hp → Prop), Walk J ds.length G Y ∧ (∀ H L2, Kp H1 L H L2 → G H) ∧
  ∀ i H x H' d L2, Kp H1 L H L2 → Y i H x H' → ds[i]? = some d → Same H H' ∧ Dt H' L2 x d
theorem wk_list {K : PySem.W.Frag} {H1 : Hp} {L : AS} {a : Addr} {xs : List V} {ds : List D} (r : Rd H1 a (.lst xs)) (l : L a) (s : Dts H1 L xs ds) : Wk H1 L (Itl K a) ds := by
  refine ⟨_, _, by rw [← s.length]; exact walk_list (K := K) (a := a) (xs := xs), fun H L2 k => Or.inl (k.rd l r), fun i H x H' d L2 k y e => ?_⟩
  obtain ⟨rfl, y⟩ := y
  obtain ⟨v, e1, t⟩ := s.get e
  rw [y] at e1
  cases e1
  exact ⟨Same.refl _, k.dt t⟩
theorem wk_tup {K : PySem.W.Frag} {H1 : Hp} {L : AS} {a : Addr} {xs : List V} {ds : List D} (r : H1 a = some (.tup xs)) (s : Dts H1 L xs ds) : Wk H1 L (Itt K a) ds := by
  refine ⟨_, _, by rw [← s.length]; exact walk_tup (K := K) (a := a) (xs := xs), fun H L2 k => Or.inl (Or.inl (k.2 _ _ r)), fun i H x H' d L2 k y e => ?_⟩
  obtain ⟨rfl, y⟩ := y
  obtain ⟨v, e1, t⟩ := s.get e
  rw [y] at e1
  cases e1
  exact ⟨Same.refl _, k.dt t⟩
theorem wk_str {H1 : Hp} {L : AS} (z : Str) : Wk H1 L (Its z) (z.cps.toList.map fun c => .str ⟨#[c]⟩) := by
  refine ⟨_, _, by rw [List.length_map, Array.length_toList]; exact walk_str (z := z), fun H L2 k => trivial, fun i H x H' d L2 k y e => ?_⟩
  obtain ⟨rfl, c, hc, rfl⟩ := y
  rw [List.getElem?_map, show z.cps.toList[i]? = z.cps[i]? by simp, hc] at e
  cases e
  exact ⟨Same.refl _, .str _⟩
theorem wk_rng {H1 : Hp} {L : AS} (a : Int) (n : Nat) : Wk H1 L (Itr a n) (rngD a n) := by
  refine ⟨_, _, by unfold rngD; rw [List.length_map, List.length_range]; exact walk_range (lo := a) (n := n), fun H L2 k => trivial, fun i H x H' d L2 k y e => ?_⟩
  obtain ⟨rfl, rfl⟩ := y
  unfold rngD at e
  rw [List.getElem?_map] at e
  by_cases hi : i < n
  · rw [List.getElem?_range hi] at e
    cases e
    exact ⟨Same.refl _, .int _⟩
  · rw [List.getElem?_eq_none (by simpa using hi)] at e
    cases e
theorem wk_rngC {H1 : Hp} {L : AS} (a c : Int) (n : Nat) : Wk H1 L (Itc a c n) (rngC a c n) := by
  refine ⟨_, _, by unfold rngC; rw [List.length_map, List.length_range]; exact walk_rangeC (lo := a) (c := c) (n := n), fun H L2 k => trivial, fun i H x H' d L2 k y e => ?_⟩
  obtain ⟨rfl, rfl⟩ := y
  unfold rngC at e
  rw [List.getElem?_map] at e
  by_cases hi : i < n
  · rw [List.getElem?_range hi] at e
    cases e
    exact ⟨Same.refl _, .int _⟩
  · rw [List.getElem?_eq_none (by simpa using hi)] at e
    cases e
theorem wk_rev {K : PySem.W.Frag} {H1 : Hp} {L : AS} {a : Addr} {xs : List V} {ds : List D} (r : Rd H1 a (.lst xs)) (l : L a) (s : Dts H1 L xs ds) : Wk H1 L (Itv K a xs.length) ds.reverse := by
  refine ⟨_, _, by rw [List.length_reverse, ← s.length]; exact walk_rev (K := K) (a := a) (xs := xs), fun H L2 k => Or.inl (k.rd l r), fun i H x H' d L2 k y e => ?_⟩
  obtain ⟨rfl, y⟩ := y
  have hi : i < ds.length := by
    have := (List.getElem?_eq_some_iff.mp e).1
    rwa [List.length_reverse] at this
  rw [List.getElem?_reverse hi] at e
  obtain ⟨v, e1, t⟩ := s.get e
  rw [s.length] at y
  rw [y] at e1
  cases e1
  exact ⟨Same.refl _, k.dt t⟩
/-- data as a source -/
theorem src_cn {H1 : Hp} {L : AS} {x : V} {d : D} {ds : List D} (h : Cn H1 L x d) (hl : ∀ a, x = .ref a → (∃ l, d = .list l) → L a) (e : itemsOf d = some ds) : ∃ xs G, SrcOf x xs G ∧ Dts H1 L xs ds ∧ G H1 ∧ ∀ H L2, Kp H1 L H L2 → G H := by
  cases h <;> simp only [itemsOf, reduceCtorEq] at e
  · rename_i z
    cases e
    refine ⟨_, _, srcOf_str z, ?_, trivial, fun _ _ _ => trivial⟩
    unfold signsV
    generalize z.cps.toList = l
    induction l with
    | nil => exact .nil
    | cons c l ih => exact .cons (.str _) ih
  · rename_i r s
    cases e
    exact ⟨_, _, srcOf_list _ _, s, r, fun H L2 k => k.rd (hl _ rfl ⟨_, rfl⟩) r⟩
  · rename_i r s
    cases e
    exact ⟨_, _, srcOf_tup _ _, s, .inl r, fun H L2 k => .inl (k.2 _ _ r)⟩
theorem wk_z2 {H1 : Hp} {L : AS} {xs ys : List V} {ds es : List D} {G1 G2 : Hp → Prop} (s1 : Dts H1 L xs ds) (s2 : Dts H1 L ys es) (k1 : ∀ H L2, Kp H1 L H L2 → G1 H) (k2 : ∀ H L2, Kp H1 L H L2 → G2 H) :
    Wk H1 L (Jz2 xs ys G1 G2) (List.zipWith (fun d e => .tuple [d, e]) ds es) := by
  refine ⟨fun H => G1 H ∧ G2 H, fun i H v H' => ∃ T x y, v = .ref T ∧ H T = none ∧ H' = upd H T (.tup [x, y]) ∧ xs[i]? = some x ∧ ys[i]? = some y, ⟨fun i H hi g => ?_, fun H g => ?_, fun i H x H' hi g y => y⟩, fun H L2 k => ⟨k1 H L2 k, k2 H L2 k⟩, fun i H x H' d L2 k y e => ?_⟩
  · rw [List.length_zipWith] at hi
    exact ⟨by rw [s1.length]; omega, by rw [s2.length]; omega, g.1, g.2⟩
  · rw [List.length_zipWith]
    have e1 := s1.length
    have e2 := s2.length
    refine ⟨by omega, by omega, by omega, g.1, g.2⟩
  · obtain ⟨T, u, v, rfl, hT, rfl, hu, hv⟩ := y
    obtain ⟨d1, e1, t1⟩ := s1.getV hu
    obtain ⟨d2, e2, t2⟩ := s2.getV hv
    rw [List.getElem?_zipWith, e1, e2] at e
    cases e
    have sm : Same H (upd H T (.tup [u, v])) := same_new hT
    exact ⟨sm, .tup upd_same (.cons (sm_dt sm (k.dt t1)) (.cons (sm_dt sm (k.dt t2)) .nil))⟩
theorem wk_z3 {H1 : Hp} {L : AS} {xs ys zs : List V} {ds es fs : List D} {G1 G2 G3 : Hp → Prop} (s1 : Dts H1 L xs ds) (s2 : Dts H1 L ys es) (s3 : Dts H1 L zs fs) (k1 : ∀ H L2, Kp H1 L H L2 → G1 H) (k2 : ∀ H L2, Kp H1 L H L2 → G2 H) (k3 : ∀ H L2, Kp H1 L H L2 → G3 H) :
    Wk H1 L (Jz3 xs ys zs G1 G2 G3) (List.zipWith (fun d p => match p with | (e, f) => .tuple [d, e, f]) ds (es.zip fs)) := by
  refine ⟨fun H => G1 H ∧ G2 H ∧ G3 H, fun i H v H' => ∃ T x y z, v = .ref T ∧ H T = none ∧ H' = upd H T (.tup [x, y, z]) ∧ xs[i]? = some x ∧ ys[i]? = some y ∧ zs[i]? = some z, ⟨fun i H hi g => ?_, fun H g => ?_, fun i H x H' hi g y => y⟩, fun H L2 k => ⟨k1 H L2 k, k2 H L2 k, k3 H L2 k⟩, fun i H x H' d L2 k y e => ?_⟩
  · rw [List.length_zipWith, List.length_zip] at hi
    exact ⟨by rw [s1.length]; omega, by rw [s2.length]; omega, by rw [s3.length]; omega, g.1, g.2.1, g.2.2⟩
  · rw [List.length_zipWith, List.length_zip]
    have e1 := s1.length
    have e2 := s2.length
    have e3 := s3.length
    refine ⟨by omega, by omega, by omega, by omega, g.1, g.2.1, g.2.2⟩
  · obtain ⟨T, u, v, w, rfl, hT, rfl, hu, hv, hw⟩ := y
    obtain ⟨d1, e1, t1⟩ := s1.getV hu
    obtain ⟨d2, e2, t2⟩ := s2.getV hv
    obtain ⟨d3, e3, t3⟩ := s3.getV hw
    have e4 : (es.zip fs)[i]? = some (d2, d3) := PyProof.Rows.zip_get e2 e3
    rw [List.getElem?_zipWith, e1, e4] at e
    cases e
    have sm : Same H (upd H T (.tup [u, v, w])) := same_new hT
    exact ⟨sm, .tup upd_same (.cons (sm_dt sm (k.dt t1)) (.cons (sm_dt sm (k.dt t2)) (.cons (sm_dt sm (k.dt t3)) .nil)))⟩
theorem enumD_get : ∀ (ds : List D) (k i : Nat), (enumD k ds)[i]? = ds[i]?.map fun d => .tuple [.int ((k + i : Nat) : Int), d]
  | [], _, _ => by simp [enumD]
  | d :: ds, k, 0 => by simp [enumD]
  | d :: ds, k, i + 1 => by
    simp only [enumD, List.getElem?_cons_succ]
    rw [enumD_get ds (k + 1) i]
    congr 1
    funext d
    rw [show k + 1 + i = k + (i + 1) by omega]
theorem enumD_length : ∀ (ds : List D) (k : Nat), (enumD k ds).length = ds.length
  | [], _ => rfl
  | d :: ds, k => by simp [enumD, enumD_length ds]
theorem wk_en {H1 : Hp} {L : AS} {xs : List V} {ds : List D} {G1 : Hp → Prop} (s1 : Dts H1 L xs ds) (k1 : ∀ H L2, Kp H1 L H L2 → G1 H) : Wk H1 L (Jen xs G1) (enumD 0 ds) := by
  refine ⟨G1, fun i H v H' => ∃ T x, v = .ref T ∧ H T = none ∧ H' = upd H T (.tup [.int (i : Nat), x]) ∧ xs[i]? = some x, ⟨fun i H hi g => ?_, fun H g => ?_, fun i H x H' hi g y => y⟩, k1, fun i H x H' d L2 k y e => ?_⟩
  · rw [enumD_length] at hi
    exact ⟨by rw [s1.length]; exact hi, g⟩
  · rw [enumD_length]
    exact ⟨s1.length.symm, g⟩
  · obtain ⟨T, u, rfl, hT, rfl, hu⟩ := y
    obtain ⟨d1, e1, t1⟩ := s1.getV hu
    rw [enumD_get, e1] at e
    simp only [Option.map_some, Option.some.injEq, Nat.zero_add] at e
    subst e
    have sm : Same H (upd H T (.tup [.int (i : Nat), u])) := same_new hT
    exact ⟨sm, .tup upd_same (.cons (.int _) (.cons (sm_dt sm (k.dt t1)) .nil))⟩

/-! ### iterables, by their rules -/
section
variable {X : Cx} {tg : Expr}
theorem pi_val {e : Expr} {te : TE} (he : PE X e te) : PI X tg e (fun σ H R => te σ H fun x H1 => (∃ a xs, x = .ref a ∧ SqL X.K H1 a xs ∧ R (Itl X.K a) H1) ∨ (∃ a xs, x = .ref a ∧ SqT X.K H1 a xs ∧ R (Itt X.K a) H1) ∨ ∃ z, x = .str z ∧ R (Its z) H1) := by
  refine ⟨fun pins s σ H R I h => ?_⟩
  refine thn (he.run pins s σ H _ I h) fun v s1 ⟨x, H1, I1, r1, q1⟩ => ?_
  rcases q1 with ⟨a, xs, rfl, hq, q⟩ | ⟨a, xs, rfl, hq, q⟩ | ⟨z, rfl, q⟩
  · cases r1
    obtain ⟨its, rv, p, hz⟩ := I1.list hq
    refine wpAny_pyIter_list p.isList ?_
    exact pi_one (tk := s1.toks) I1 _ (turn_list a _) ⟨_, Heap.get?_push_size _ rfl, rfl, rfl⟩ q
  · cases r1
    obtain ⟨its, rv, p, hz⟩ := I1.tuple hq
    refine wpAny_pyIter_tuple (show s1.heap.IsTuple a its.toArray from p) ?_
    exact pi_one (tk := s1.toks) I1 _ (turn_tuple a _) ⟨_, Heap.get?_push_size _ rfl, rfl, rfl⟩ q
  · obtain ⟨t, rfl⟩ := r1
    cases ha : z.cps.all (· < 128)
    · exact wpAny_pyIter_wide ha (pi_one (tk := s1.toks) I1 _ (turn_str _ z t "str_iterator" (.inr rfl)) ⟨_, Heap.get?_push_size _ rfl, rfl, rfl⟩ q)
    · exact wpAny_pyIter_ascii ha (pi_one (tk := s1.toks) I1 _ (turn_str _ z t "str_ascii_iterator" (.inl rfl)) ⟨_, Heap.get?_push_size _ rfl, rfl, rfl⟩ q)
theorem fresh_fp {pins : List (Addr × Obj)} {σ : L2.St} {H : Hp} {s : Shared} (I : Inv X pins σ H s) {b : Addr} (h : s.heap.objs.size ≤ b) : FpOk X pins H b := I.fpOk h (I.hok.fresh h)
theorem pi_z2 {e e2 : Expr} {ta : TA} {p pos tpos : Pos} {elts : List Expr} {kk : Nat} (hg : Gl X "zip") (hm : X.mg "zip" = none) (ha : PA X [e, e2] ta)
    (hs : starEach [e, e2] X.env = (false, eval e X.env) :: starEach [e2] X.env) (hpl : (backTo pos (starEach [e2] X.env)).any (·.1) = false) :
    PI X (.Tuple elts kk tpos) (.Call (.Name "zip" p) [e, e2] [] pos) (fun σ H R => ta σ H fun vs H1 => ∃ x y xs ys G1 G2, vs = [x, y] ∧ SrcOf x xs G1 ∧ SrcOf y ys G2 ∧ G1 H1 ∧ G2 H1 ∧ R (Jz2 xs ys G1 G2) H1) := by
  refine ⟨fun pins s σ H R I h => ?_⟩
  refine Call_ (ld_blt I hg hm PyProof.Rows.boot_zip (PyProof.Rows.callWith_type1 (thn (ha.run pos pins s σ H _ I h) fun us s1 ⟨vs, H1, I1, r1, q1⟩ => ?_) hs hpl))
  obtain ⟨x, y, xs, ys, G1, G2, rfl, S1, S2, g1, g2, q⟩ := q1
  obtain ⟨u1, u2, rfl, ru1, ru2⟩ := vals2 r1
  obtain ⟨o1, c1, Os1, B1⟩ := S1 u1 ru1
  obtain ⟨o2, c2, Os2, B2⟩ := S2 u2 ru2
  obtain ⟨lt1, ⟨b1, bg1, bh1⟩, _⟩ := B1.now I1 g1
  obtain ⟨lt2, ⟨b2, bg2, bh2⟩, _⟩ := B2.now I1 g2
  refine zip_begins2 bg1 bg2 bh1 bh2 fun h' hz hTI hTO e1 e2 hsz hk => wpAny_pyIter_zip hz ?_
  have I2 : Inv X pins σ H1 { s1 with heap := h' } := I1.kept (t' := s1.toks) hk
  have n1 : s1.heap.objs.size ∉ c1 := fun q => absurd (lt1 _ q) (Nat.lt_irrefl _)
  have n2 : s1.heap.objs.size + 1 ∉ c2 := fun q => absurd (lt2 _ q) (by
    intro hh
    have : (s1.heap.objs.size : Nat) + 1 < s1.heap.objs.size := hh
    omega)
  refine ⟨s1.heap.objs.size + 4, [s1.heap.objs.size + 4, s1.heap.objs.size + 2, s1.heap.objs.size + 3, s1.heap.objs.size, s1.heap.objs.size + 1], _, _, H1, rfl, I2, turn_z2 B1 B2 (zip_sep2 lt1 lt2) n1 n2, ⟨hz, hTI, ⟨_, _, hTO⟩, B1.at0 _ _ e1, B2.at0 _ _ e2⟩, fun c hcm => ?_, q⟩
  refine fresh_fp I1 ?_
  have e' : c = s1.heap.objs.size + 4 ∨ c = s1.heap.objs.size + 2 ∨ c = s1.heap.objs.size + 3 ∨ c = s1.heap.objs.size ∨ c = s1.heap.objs.size + 1 := by simpa using hcm
  rcases e' with z | z | z | z | z
  · rw [z]; exact Nat.le_add_right _ _
  · rw [z]; exact Nat.le_add_right _ _
  · rw [z]; exact Nat.le_add_right _ _
  · rw [z]; exact Nat.le_refl _
  · rw [z]; exact Nat.le_add_right _ _
theorem pi_z3 {e e2 e3 : Expr} {ta : TA} {p pos tpos : Pos} {elts : List Expr} {kk : Nat} (hg : Gl X "zip") (hm : X.mg "zip" = none) (ha : PA X [e, e2, e3] ta)
    (hs : starEach [e, e2, e3] X.env = (false, eval e X.env) :: starEach [e2, e3] X.env) (hpl : (backTo pos (starEach [e2, e3] X.env)).any (·.1) = false) :
    PI X (.Tuple elts kk tpos) (.Call (.Name "zip" p) [e, e2, e3] [] pos) (fun σ H R => ta σ H fun vs H1 => ∃ x y z xs ys zs G1 G2 G3, vs = [x, y, z] ∧ SrcOf x xs G1 ∧ SrcOf y ys G2 ∧ SrcOf z zs G3 ∧ G1 H1 ∧ G2 H1 ∧ G3 H1 ∧ R (Jz3 xs ys zs G1 G2 G3) H1) := by
  refine ⟨fun pins s σ H R I h => ?_⟩
  refine Call_ (ld_blt I hg hm PyProof.Rows.boot_zip (PyProof.Rows.callWith_type1 (thn (ha.run pos pins s σ H _ I h) fun us s1 ⟨vs, H1, I1, r1, q1⟩ => ?_) hs hpl))
  obtain ⟨x, y, z, xs, ys, zs, G1, G2, G3, rfl, S1, S2, S3, g1, g2, g3, q⟩ := q1
  cases r1 with | cons ru1 r1 => cases r1 with | cons ru2 r1 => cases r1 with | cons ru3 r1 => cases r1 with | nil =>
  obtain ⟨o1, c1, Os1, B1⟩ := S1 _ ru1
  obtain ⟨o2, c2, Os2, B2⟩ := S2 _ ru2
  obtain ⟨o3, c3, Os3, B3⟩ := S3 _ ru3
  obtain ⟨lt1, ⟨b1, bg1, bh1⟩, _⟩ := B1.now I1 g1
  obtain ⟨lt2, ⟨b2, bg2, bh2⟩, _⟩ := B2.now I1 g2
  obtain ⟨lt3, ⟨b3, bg3, bh3⟩, _⟩ := B3.now I1 g3
  refine zip_begins3 bg1 bg2 bg3 bh1 bh2 bh3 fun h' hz hTI hTO e1 e2 e3 hsz hk => wpAny_pyIter_zip hz ?_
  have I2 : Inv X pins σ H1 { s1 with heap := h' } := I1.kept (t' := s1.toks) hk
  have n1 : s1.heap.objs.size ∉ c1 := fun q => absurd (lt1 _ q) (Nat.lt_irrefl _)
  have n2 : s1.heap.objs.size + 1 ∉ c2 := fun q => absurd (lt2 _ q) (by
    intro hh
    have : (s1.heap.objs.size : Nat) + 1 < s1.heap.objs.size := hh
    omega)
  have n3 : s1.heap.objs.size + 2 ∉ c3 := fun q => absurd (lt3 _ q) (by
    intro hh
    have : (s1.heap.objs.size : Nat) + 2 < s1.heap.objs.size := hh
    omega)
  refine ⟨s1.heap.objs.size + 5, [s1.heap.objs.size + 5, s1.heap.objs.size + 3, s1.heap.objs.size + 4, s1.heap.objs.size, s1.heap.objs.size + 1, s1.heap.objs.size + 2], _, _, H1, rfl, I2, turn_z3 B1 B2 B3 (zip_sep3 lt1 lt2 lt3) n1 n2 n3, ⟨hz, hTI, ⟨_, _, _, hTO⟩, B1.at0 _ _ e1, B2.at0 _ _ e2, B3.at0 _ _ e3⟩, fun c hcm => ?_, q⟩
  refine fresh_fp I1 ?_
  have e' : c = s1.heap.objs.size + 5 ∨ c = s1.heap.objs.size + 3 ∨ c = s1.heap.objs.size + 4 ∨ c = s1.heap.objs.size ∨ c = s1.heap.objs.size + 1 ∨ c = s1.heap.objs.size + 2 := by simpa using hcm
  rcases e' with z | z | z | z | z | z
  · rw [z]; exact Nat.le_add_right _ _
  · rw [z]; exact Nat.le_add_right _ _
  · rw [z]; exact Nat.le_add_right _ _
  · rw [z]; exact Nat.le_refl _
  · rw [z]; exact Nat.le_add_right _ _
  · rw [z]; exact Nat.le_add_right _ _
theorem pi_en {e : Expr} {ta : TA} {p pos tpos : Pos} {elts : List Expr} {kk : Nat} (hg : Gl X "enumerate") (hm : X.mg "enumerate" = none) (ha : PA X [e] ta) (hs : starEach [e] X.env = (false, eval e X.env) :: starEach [] X.env) :
    PI X (.Tuple elts kk tpos) (.Call (.Name "enumerate" p) [e] [] pos) (fun σ H R => ta σ H fun vs H1 => (∃ a xs, vs = [.ref a] ∧ Rd H1 a (.lst xs) ∧ R (Jen xs fun H => Rd H a (.lst xs)) H1) ∨ ∃ z, vs = [.str z] ∧ R (Jen (signsV z) fun _ => True) H1) := by
  refine ⟨fun pins s σ H R I h => ?_⟩
  refine Call_ (ld_blt I hg hm boot_enumerate (PyProof.Rows.callWith_type1 (thn (ha.run pos pins s σ H _ I h) fun us s1 ⟨vs, H1, I1, r1, q1⟩ => ?_) hs rfl))
  have fp : ∀ b, b ∈ [s1.heap.objs.size + 1, s1.heap.objs.size] → FpOk X pins H1 b := fun b hb => by
    have e' : b = s1.heap.objs.size + 1 ∨ b = s1.heap.objs.size := by simpa using hb
    refine fresh_fp I1 ?_
    rcases e' with z | z
    · rw [z]; exact Nat.le_add_right _ _
    · rw [z]; exact Nat.le_refl _
  rcases q1 with ⟨a, xs, rfl, hq, q⟩ | ⟨z, rfl, q⟩
  · obtain ⟨u, rfl, ru⟩ := vals1 r1
    cases ru
    obtain ⟨its, rv, p', hz⟩ := I1.list (.inl hq)
    refine call_enumerate_list p'.isList fun h' he hit hsz hk => wpAny_pyIter_enum he ?_
    have I2 : Inv X pins σ H1 { s1 with heap := h' } := I1.kept (t' := s1.toks) hk
    have ha : s1.heap.objs.size ∉ [a] := fun q => by
      have e : s1.heap.objs.size = a := by simpa using q
      exact absurd p'.lt (by rw [← e]; exact Nat.lt_irrefl _)
    have ha1 : s1.heap.objs.size + 1 ∉ [a] := fun q => by
      have e : s1.heap.objs.size + 1 = a := by simpa using q
      have := p'.lt
      rw [← e] at this
      exact absurd this (by
        intro hh
        have : (s1.heap.objs.size : Nat) + 1 < s1.heap.objs.size := hh
        omega)
    exact ⟨s1.heap.objs.size + 1, [s1.heap.objs.size + 1, s1.heap.objs.size], _, _, H1, rfl, I2, turn_en (src_list a xs) ha (Nat.succ_ne_self _) ha1, ⟨⟨_, he⟩, hit⟩, fp, q⟩
  · obtain ⟨u, rfl, ru⟩ := vals1 r1
    obtain ⟨t, rfl⟩ := ru
    refine call_enumerate_str fun h' he hit hsz hk => wpAny_pyIter_enum he ?_
    have I2 : Inv X pins σ H1 { s1 with heap := h' } := I1.kept (t' := s1.toks) hk
    exact ⟨s1.heap.objs.size + 1, [s1.heap.objs.size + 1, s1.heap.objs.size], _, _, H1, rfl, I2, turn_en (src_str z t) (by simp) (Nat.succ_ne_self _) (by simp), ⟨⟨_, he⟩, hit⟩, fp, q⟩
end
end En

set_option Elab.async false
set_option linter.all false
set_option maxRecDepth 100000
set_option maxHeartbeats 4000000
/-! list(reversed(x)), x a list -/
namespace RT
open PySem PySem.Spec PyProof.Rows L2
section
variable {prog : Program} {w : World} {A : Around} {E : Value → Shared → Prop} {s : Shared}
theorem extend_rev {R : Result → Shared → Prop} {it l S : Addr} {items : Array Value} (hh : A.handled = none) (hit : s.heap.IsRevIter it l ((items.size : Int) - 1)) (hl : s.heap.IsList l items) (hne : l ≠ it) (hn : items.size ≤ sizeLine)
    (hSi : S ≠ it) (hSl : S ≠ l) (res : Value) (c₀ : Nat) (hS : s.heap.get? S = some { cls := .type "list", data := .seq #[] c₀ })
    (hR : ∀ h' tk acc' c', (∀ b o, b ≠ it → b ≠ S → s.heap.get? b = some o → h'.get? b = some o) → h'.get? S = some { cls := .type "list", dict := none, data := .seq acc' c', slots := #[] } →
      ItemsOf (fun i v => items[items.size - 1 - i]? = some v) acc' items.size → R (.ok (.ret res)) { s with heap := h', toks := tk }) :
    wpAny (model prog w) A.in1 (Builtin.List.listExtendWith (.ref S) (.ref it) res)
      (fun fin s' => match fin with | .done f => R (.ok f) s' | .again c' => c'.quiet = true ∧ codeAny (model prog w) A c' R s') (fun e s' => R (.error e) s') s := by
  have W := (Walks.listRev (prog := prog) (w := w) (A := A.in1) hh it l hne items).toS
  have hSf : S ∉ [it, l] := by simp only [List.mem_cons, List.not_mem_nil, or_false, not_or]; exact ⟨hSi, hSl⟩
  have hT : s.TypeIs (.ref it) "list_reverseiterator" := Heap.IsRevIter.typeIs hit
  have h1 : Builtin.List.listSameRef (.ref S) (.ref it) = false := by simp [Builtin.List.listSameRef, hSi]
  unfold Builtin.List.listExtendWith
  refine wpAny_bind (wpAny_typeOf hT ?_)
  rw [if_neg (by rw [h1]; decide)]
  refine wpAny_bind (wpAny_pyIter_revIter hit ?_)
  refine wpAny_bind (wpAny_holding ?_)
  unfold Builtin.List.listLengthHint
  refine wpAny_bind (wpAny_specialOf hT nolen_lri ?_)
  show wpAny _ A.in1 (specialOf (Value.ref it) (Str.ofString "__length_hint__") >>= _) _ _ _
  refine wpAny_bind (wpAny_specialOf hT hint_lri ?_)
  generalize hid : ("list_reverseiterator.__length_hint__" : String) = id0
  wp_delta
  rw [show splitId id0 = some ("list_reverseiterator", "__length_hint__") from by subst hid; decide +kernel]
  subst hid
  refine wpAny_bind (wpAny_isInstance (b := true) hT (by rw [isSubtype_type]; kernel_rfl) ?_)
  refine wpAny_pure ?_
  rw [if_neg (by decide)]
  have e0 : ((items.size : Nat) : Int) - 1 - ((0 : Nat) : Int) = (items.size : Int) - 1 := by omega
  refine wpAny_pure ⟨plainId_quiet F.plain_extend_loop _, codeAny_extend_loopS W hn _ hSf _ items.size 0 _ _ _ rfl (Nat.zero_le _) ⟨Nat.zero_le _, by rw [e0]; exact hit, hl⟩ hS (ItemsOf.nil _) fun s' acc' c' hm hS' hacc => ?_⟩
  rw [Moved.eq_with hm]
  refine hR s'.heap s'.toks acc' c' (fun b o hb hb2 e => hm.heap b o (fun hmem => ?_) e) hS' hacc
  rcases List.mem_cons.mp hmem with e' | hmem
  · exact hb2 e'
  · exact hb (List.mem_singleton.mp hmem)
theorem list_init_rev {R : Result → Shared → Prop} {it l S : Addr} {items : Array Value} (hh : A.handled = none) (hit : s.heap.IsRevIter it l ((items.size : Int) - 1)) (hl : s.heap.IsList l items) (hne : l ≠ it) (hn : items.size ≤ sizeLine)
    (hSi : S ≠ it) (hSl : S ≠ l) (hS : s.heap.get? S = some { cls := .type "list", data := .seq #[] })
    (hR : ∀ h' tk acc' c', (∀ b o, b ≠ it → b ≠ S → s.heap.get? b = some o → h'.get? b = some o) → h'.get? S = some { cls := .type "list", dict := none, data := .seq acc' c', slots := #[] } →
      ItemsOf (fun i v => items[items.size - 1 - i]? = some v) acc' items.size → R (.ok (.ret .none)) { s with heap := h', toks := tk }) :
    wpAny (model prog w) A.in1 (Builtin.«list.__init__» ⟨[.ref S, .ref it], []⟩)
      (fun fin s' => match fin with | .done f => R (.ok f) s' | .again c' => c'.quiet = true ∧ codeAny (model prog w) A c' R s') (fun e s' => R (.error e) s') s := by
  show wpAny _ _ (do let old ← Builtin.List.listItems (.ref S); Builtin.List.listUpdate (.ref S) (fun _ => #[]); letGo old.toList.reverse; Builtin.List.listExtendWith (.ref S) (.ref it) .none) _ _ s
  refine wpAny_bind ?_
  unfold Builtin.List.listItems
  refine wpAny_bind (wpAny_seqItems hS rfl (wpAny_pure ?_))
  show wpAny _ _ (updateSeq S (fun _ => #[]) >>= fun _ => letGo (#[] : Array Value).toList.reverse >>= fun _ => Builtin.List.listExtendWith (.ref S) (.ref it) .none) _ _ s
  refine wpAny_bind (wpAny_updateSeq hS rfl ?_)
  have hS₂ := Heap.get?_update_self (Obj.mapSeq (fun _ => (#[] : Array Value))) hS rfl
  have oth : ∀ b o, b ≠ S → s.heap.get? b = some o → (s.heap.update S (Obj.mapSeq (fun _ => (#[] : Array Value)))).get? b = some o :=
    fun b o hb e => (Heap.get?_update_other _ _ (Ne.symm hb)).trans e
  obtain ⟨ol, hol, hcl⟩ := id hl
  have hl2 : (s.heap.update S (Obj.mapSeq (fun _ => (#[] : Array Value)))).IsList l items := ⟨ol, oth l ol (Ne.symm hSl) hol, hcl⟩
  have hit2 : (s.heap.update S (Obj.mapSeq (fun _ => (#[] : Array Value)))).IsRevIter it l ((items.size : Int) - 1) := hit.at fun o e => oth it o (Ne.symm hSi) e
  refine wpAny_bind (wpAny_letGo ?_)
  refine extend_rev (s := { s with heap := s.heap.update S (Obj.mapSeq (fun _ => (#[] : Array Value))) }) hh hit2 hl2 hne hn hSi hSl .none _ hS₂ fun h' tk acc' c' hk hS' hacc => ?_
  exact hR h' tk acc' c' (fun b o hb hb2 e => hk b o hb hb2 (oth b o hb2 e)) hS' hacc
theorem call_list_rev {it l : Addr} {items : Array Value} {Q : Value → Shared → Prop} (hh : A.handled = none) (hit : s.heap.IsRevIter it l ((items.size : Int) - 1)) (hl : s.heap.IsList l items) (hne : l ≠ it) (hn : items.size ≤ sizeLine)
    (hQ : ∀ h' tk acc' c', (∀ b o, b ≠ it → s.heap.get? b = some o → h'.get? b = some o) →
      h'.get? s.heap.objs.size = some { cls := .type "list", dict := none, data := .seq acc' c', slots := #[] } → ItemsOf (fun i v => items[items.size - 1 - i]? = some v) acc' items.size → Q (.ref s.heap.objs.size) { s with heap := h', toks := tk }) :
    wpAny (model prog w) A (call (.type "list") [.ref it]) Q E s := by
  refine callType_codes (Q₁ := fun obj s₁ => obj = .ref s.heap.objs.size ∧ s₁ = { s with heap := s.heap.push { cls := .type "list", data := .seq #[] } }) F.called_list (F.typeCall_list_1 _) F.entry_list_init
    (code_list_new _ ⟨rfl, rfl⟩) fun obj s₁ h₁ => ?_
  obtain ⟨rfl, rfl⟩ := h₁
  have hS : (s.heap.push { cls := .type "list", data := .seq #[] }).get? s.heap.objs.size = some { cls := .type "list", data := .seq #[] } := Heap.get?_push_size _ rfl
  obtain ⟨oi, hoi, _⟩ := id hit
  obtain ⟨ol, hol, _⟩ := id hl
  refine ⟨⟨_, hS, rfl⟩, F.args_list_init_2 _ _, list_init_rev (A := A.in1) hh (hit.at fun o e => Heap.get?_push_of_some _ e) (hl.push _) hne hn (Nat.ne_of_gt (Heap.lt_size hoi)) (Nat.ne_of_gt (Heap.lt_size hol)) hS fun h' tk acc' c' hk hS' hacc => ?_⟩
  exact ⟨rfl, hQ h' tk acc' c' (fun b o hb e => hk b o hb (Nat.ne_of_lt (Heap.lt_size e)) (Heap.get?_push_of_some _ e)) hS' hacc⟩
end
end RT
namespace L2
open PySem PySem.Spec PyProof.Rows RT
def tLstRev (K : PySem.W.Frag) (te : TE) : TE := fun σ H Q => te σ H fun v H1 => ∃ (a : Addr) (xs : List V), v = .ref a ∧ SqL K H1 a xs ∧ ∀ q, H1 q = none → Q (.ref q) (upd H1 q (.lst xs.reverse))
section
variable {X : Cx}
theorem pe_lstRev {e : Expr} {te : TE} {p p2 pos pos2 : Pos} (hc : X.calm = true) (hg : Gl X "list") (hm : X.mg "list" = none) (hg2 : Gl X "reversed") (hm2 : X.mg "reversed" = none) (he : PE X e te)
    (hs : starEach [e] X.env = (false, eval e X.env) :: starEach [] X.env)
    (hs2 : starEach [.Call (.Name "reversed" p2) [e] [] pos2] X.env = (false, eval (.Call (.Name "reversed" p2) [e] [] pos2) X.env) :: starEach [] X.env) :
    PE X (.Call (.Name "list" p) [.Call (.Name "reversed" p2) [e] [] pos2] [] pos) (tLstRev X.K te) := by
  refine ⟨fun pins s σ H Q I h => ?_⟩
  refine Call_ (ld_blt I hg hm boot_list (PyProof.Rows.callWith_type1 (args_cons (Call_ (ld_blt I hg2 hm2 PyProof.Rows.boot_reversed (PyProof.Rows.callWith_type1 (args_cons (thn (he.run pins s σ H _ I h) fun u s1 ⟨v, H1, I1, r1, q1⟩ => args_nil ?_) hs) hs rfl))) hs2) hs2 rfl))
  obtain ⟨a, xs, ev, hq, q⟩ := q1
  subst ev
  obtain rfl : u = Value.ref a := r1
  obtain ⟨its, rv, p', hz⟩ := I1.list hq
  refine call_reversed_list p'.isList (args_nil ?_)
  have k0 : ∀ b o, s1.heap.get? b = some o → (s1.heap.push (revObj a ((its.toArray.size : Int) - 1))).get? b = some o := fun b o e => Heap.get?_push_of_some _ e
  have I2 : Inv X pins σ H1 { s1 with heap := s1.heap.push (revObj a ((its.toArray.size : Int) - 1)) } := I1.kept (t' := s1.toks) k0
  obtain ⟨f0, f1, f2, f3, f4, f5⟩ := I1.fpOk (H' := H1) (b := s1.heap.objs.size) (Nat.le_refl _) (I1.hok.fresh (Nat.le_refl _))
  have hl := p'.isList
  obtain ⟨ol, hol, _⟩ := id hl
  have hne : a ≠ s1.heap.objs.size := Nat.ne_of_lt (Heap.lt_size hol)
  have hn : its.toArray.size ≤ sizeLine := by rw [List.size_toArray, ← rv.length]; exact hz
  refine call_list_rev (s := { s1 with heap := s1.heap.push (revObj a ((its.toArray.size : Int) - 1)) }) (I1.ok.hd hc) ⟨_, Heap.get?_push_size _ rfl, rfl, rfl⟩ (hl.push _) hne hn fun h' tk acc c' hk hS hi => ?_
  have hfr : H1 (s1.heap.push (revObj a ((its.toArray.size : Int) - 1))).objs.size = none := I2.hok.fresh (Nat.le_refl _)
  have I3 : Inv X pins σ (upd H1 (s1.heap.push (revObj a ((its.toArray.size : Int) - 1))).objs.size (.lst xs.reverse)) { s1 with heap := h', toks := tk } := by
    refine I2.turnedNew (ch := [s1.heap.objs.size]) (fun b o hb e => hk b o (fun z => hb (by simp [z])) e) (fun b hb => ?_) (Nat.le_refl _) (show ObjOk X.prog X.w _ _ _ (.lst xs.reverse) from ⟨by rw [List.length_reverse]; exact hz, acc.toList, c', vals_rev rv hi, ?_⟩)
    · obtain rfl := List.mem_singleton.mp hb
      exact I1.fpOk (Nat.le_refl _) (I1.hok.fresh (Nat.le_refl _))
    · rw [Array.toArray_toList]
      exact hS
  exact ⟨.ref _, _, I3, rfl, q _ hfr⟩
end
end L2

set_option Elab.async false
set_option linter.all false
set_option maxRecDepth 100000
set_option maxHeartbeats 4000000
namespace En
open PySem PySem.Spec PyProof.Rows L2

/-! ### the written program against the text -/
def kL : Option NameKind → Bool
  | some .local => true
  | some .cell => true
  | _ => false
def slotOk (N : List Str) (sc : Scope) (i : Nat) (x : Str) : Bool :=
  decide (N[i]? = some x) && (kL (sc.names.lookup x) || decide (sc.names.lookup x = some .free)) && !(x == "__debug__") && !(x == "__classdict__")
def glOk (sc : Scope) (x : Str) : Bool := decide (sc.names.lookup x = some .globalImplicit) && !(x == "__debug__")
def tgOk (N : List Str) (sc : Scope) (i : Nat) : Expr → Bool
  | .Name x _ => decide (N[i]? = some x) && kL (sc.names.lookup x)
  | _ => false
def tgsOk (N : List Str) (sc : Scope) : List Nat → List Expr → Bool
  | [], [] => true
  | i :: l, e :: es => tgOk N sc i e && tgsOk N sc l es
  | _, _ => false
def okG (N : List Str) (sc : Scope) : MG → Expr → Bool
  | .n i, e => tgOk N sc i e
  | .t l, .Tuple es _ _ => tgsOk N sc l es
  | _, _ => false
def isTup : Expr → Bool
  | .Tuple _ _ _ => true
  | _ => false
def idx : MG → List Nat
  | .n i => [i]
  | .t l => l
def ownOf (N : List Str) (g : MG) : List (Str × Nat) := (idx g).map fun i => (N.getD i "", i)
mutual
def okE (N : List Str) (sc : Scope) : ME → Expr → Bool
  | .v i, e => match e with | .Name x _ => slotOk N sc i x | _ => false
  | .kn, e => match e with | .Constant .none _ _ => true | _ => false
  | .kb b, e => match e with | .Constant (.bool c) _ _ => decide (b = c) | _ => false
  | .ki i, e => match e with | .Constant (.int j) _ _ => decide (i = j) | _ => false
  | .ks s, e => match e with | .Constant (.str x) _ _ => decide (s = x) | _ => false
  | .lst ms, e => match e with | .List es _ => okEs N sc ms es | _ => false
  | .tup ms, e => match e with | .Tuple es _ _ => okEs N sc ms es | _ => false
  | .dK0, e => match e with | .Dict [] [] _ => true | _ => false
  | .dT0, e => match e with | .Dict [] [] _ => true | _ => false
  | .dix a k, e => match e with | .Subscript x y _ => okE N sc a x && okE N sc k y | _ => false
  | .sset a, e => match e with | .Call (.Name l _) [.Call (.Name r _) [x] [] _] [] _ => decide (l = "sorted") && glOk sc l && decide (r = "set") && glOk sc r && okE N sc a x | _ => false
  | .bin op a b, e => match e with | .BinOp x op' y _ => decide (op = op') && okE N sc a x && okE N sc b y | _ => false
  | .neg a, e => match e with | .UnaryOp .USub x _ => okE N sc a x | _ => false
  | .cmp op a b, e => match e with | .Compare x [op'] [y] _ => decide (op = op') && !(behindInMarks op' y) && okE N sc a x && okE N sc b y | _ => false
  | .chn op op2 a b c, e => match e with | .Compare x [o1, o2] [y, z] _ => decide (op = o1) && decide (op2 = o2) && !(lastMarks [o1, o2] [y, z]) && okE N sc a x && okE N sc b y && okE N sc c z | _ => false
  | .bop con ms, e => match e with
    | .BoolOp .And es _ => con && okEs N sc ms es
    | .BoolOp .Or es _ => !con && okEs N sc ms es
    | _ => false
  | .not_ a, e => match e with | .UnaryOp .Not x _ => okE N sc a x | _ => false
  | .ite c a b, e => match e with | .IfExp x y z _ => okE N sc c x && okE N sc a y && okE N sc b z | _ => false
  | .ix a i, e => match e with | .Subscript x y _ => okE N sc a x && okE N sc i y | _ => false
  | .sl a lo hi, e => match e with | .Subscript x (.Slice l h none _) _ => okE N sc a x && okO N sc lo l && okO N sc hi h | _ => false
  | .bi f ms, e => match e with | .Call (.Name g _) (x :: es) [] _ => decide (f = g) && glOk sc g && (biV f).isSome && okEs N sc ms (x :: es) | _ => false
  | .isi a T, e => match e with | .Call (.Name g _) [x, .Name T' _] [] _ => decide (g = "isinstance") && glOk sc g && decide (T = T') && glOk sc T' && (decide (T = "str") || decide (T = "bool") || decide (T = "int") || decide (T = "list") || decide (T = "tuple")) && okE N sc a x | _ => false
  | .mt o f ms, e => match e with | .Call (.Attribute x f' ap) (y :: es) [] cp => decide (f = f') && (decide (f = "join") || decide (f = "startswith") || decide (f = "count")) && (ap.endLine == cp.line) && decide (es.length < 20) && okE N sc o x && okEs N sc ms (y :: es) | _ => false
  | .call f ms, e => match e with | .Call (.Name g _) (x :: es) [] _ => decide (f = g) && glOk sc g && okEs N sc ms (x :: es) | _ => false
  | .lc g it c elt, e => match e with | .ListComp x [⟨tg, iter, ifs, 0⟩] scope _ => blkC N sc scope (ownOf N g) && okG N scope g tg && okI N sc it tg iter && okC N (relS scope sc) c ifs && okE N (relS scope sc) elt x | _ => false
  | .lr a b, e => match e with
    | .Call (.Name l _) [.Call (.Name r _) [x] [] _] [] _ => decide (l = "list") && glOk sc l && decide (r = "range") && glOk sc r && okO N sc a (some x) && okO N sc b none
    | .Call (.Name l _) [.Call (.Name r _) [x, y] [] _] [] _ => decide (l = "list") && glOk sc l && decide (r = "range") && glOk sc r && okO N sc a (some x) && okO N sc b (some y)
    | _ => false
  | .rep _ _ _, _ => false
  | .dgt i k d, e => match e with | .Call (.Attribute (.Name x _) m ap) [y, z] [] cp => slotOk N sc i x && decide (m = "get") && (ap.endLine == cp.line) && okE N sc k y && okE N sc d z | _ => false
  | .lix a b, e => match e with | .Call (.Attribute x m ap) [y] [] cp => decide (m = "index") && (ap.endLine == cp.line) && okE N sc a x && okE N sc b y | _ => false
  | .srk a f, e => match e with | .Call (.Name l _) [x] [⟨some y, .Name g _, _⟩] _ => decide (l = "sorted") && glOk sc l && decide (y = Str.ofString "key") && decide (f = g) && glOk sc g && okE N sc a x | _ => false
  | .rvl a, e => match e with | .Call (.Name l _) [.Call (.Name r _) [x] [] _] [] _ => decide (l = "list") && glOk sc l && decide (r = "reversed") && glOk sc r && okE N sc a x | _ => false
def okEs (N : List Str) (sc : Scope) : MEs → List Expr → Bool
  | .nil, es => match es with | [] => true | _ => false
  | .cons m ms, es => match es with | e :: r => okE N sc m e && okEs N sc ms r | _ => false
def okO (N : List Str) (sc : Scope) : MO → Option Expr → Bool
  | .no, o => match o with | none => true | _ => false
  | .so m, o => match o with | some e => okE N sc m e | _ => false
def okC (N : List Str) (sc : Scope) : MO → List Expr → Bool
  | .no, o => match o with | [] => true | _ => false
  | .so m, o => match o with | [e] => okE N sc m e | _ => false
def okI (N : List Str) (sc : Scope) : MI → Expr → Expr → Bool
  | .e a, _, e => okE N sc a e
  | .r1 a, _, e => match e with | .Call (.Name r _) [x] [] _ => decide (r = "range") && glOk sc r && okE N sc a x | _ => false
  | .r2 a b, _, e => match e with | .Call (.Name r _) [x, y] [] _ => decide (r = "range") && glOk sc r && okE N sc a x && okE N sc b y | _ => false
  | .r3 a b c, _, e => match e with | .Call (.Name r _) [x, y, z] [] _ => decide (r = "range") && glOk sc r && okE N sc a x && okE N sc b y && okE N sc c z | _ => false
  | .zip a b, tg, e => match e with | .Call (.Name r _) [x, y] [] _ => decide (r = "zip") && isTup tg && glOk sc r && okE N sc a x && okE N sc b y | _ => false
  | .zip3 a b c, tg, e => match e with | .Call (.Name r _) [x, y, z] [] _ => decide (r = "zip") && isTup tg && glOk sc r && okE N sc a x && okE N sc b y && okE N sc c z | _ => false
  | .enum a, tg, e => match e with | .Call (.Name r _) [x] [] _ => decide (r = "enumerate") && isTup tg && glOk sc r && okE N sc a x | _ => false
  | .rev a, _, e => match e with | .Call (.Name r _) [x] [] _ => decide (r = "reversed") && glOk sc r && okE N sc a x | _ => false
end
/-! ### shapes -/
theorem ok_star {N : List Str} {sc : Scope} {m : ME} {a : Expr} {p : Pos} : okE N sc m (.Starred a p) = false := by cases m <;> rfl
theorem ok_slice {N : List Str} {sc : Scope} {m : ME} {a b c : Option Expr} {p : Pos} : okE N sc m (.Slice a b c p) = false := by cases m <;> rfl
theorem ok_set {N : List Str} {sc : Scope} {m : ME} {a : List Expr} {k : Nat} {p : Pos} : okE N sc m (.Set a k p) = false := by cases m <;> rfl
theorem star_cons {N : List Str} {sc : Scope} {m : ME} {e : Expr} (h : okE N sc m e = true) (es : List Expr) (env : Env) : starEach (e :: es) env = (false, eval e env) :: starEach es env := by
  cases e with
  | Starred a p => rw [ok_star] at h; cases h
  | _ => rfl
theorem star_none {N : List Str} {sc : Scope} {env : Env} : ∀ {ms : MEs} {es : List Expr}, okEs N sc ms es = true → (starEach es env).any (·.1) = false
  | .nil, es, h => by
    cases es with
    | nil => rfl
    | cons e r => simp [okEs] at h
  | .cons m ms, es, h => by
    cases es with
    | nil => simp [okEs] at h
    | cons e r =>
      simp only [okEs, Bool.and_eq_true] at h
      rw [star_cons h.1, List.any_cons, star_none h.2]
      rfl
theorem back_any (pos : Pos) (l : List (Bool × Sem Value)) (h : l.any (·.1) = false) : (backTo pos l).any (·.1) = false := by
  unfold backTo
  rw [List.any_map]
  exact h
theorem back_all (pos : Pos) (l : List (Bool × Sem Value)) (h : l.any (·.1) = false) : (backTo pos l).all (fun x => !x.1) = true := by
  unfold backTo
  rw [List.all_map]
  rw [List.any_eq_false] at h
  rw [List.all_eq_true]
  intro x hx
  have := h x hx
  show (!x.1) = true
  simpa using this
theorem plain_ix {N : List Str} {sc : Scope} {m : ME} {e : Expr} (h : okE N sc m e = true) : PlainIx e := by
  intro o i
  cases e with
  | Slice a b c p => rw [ok_slice] at h; cases h
  | _ => rfl
/-! ### from a reading to another -/
end En
namespace L2
open PySem PySem.Spec PyProof.Rows
section
variable {X : Cx}
theorem PE.imp {e : Expr} {t t' : TE} (h : PE X e t) (i : ∀ σ H Q, t' σ H Q → t σ H Q) : PE X e t' := ⟨fun pins s σ H Q I q => h.run pins s σ H Q I (i σ H Q q)⟩
theorem PT.imp {e : Expr} {t t' : TT} (h : PT X e t) (i : ∀ σ H Q, t' σ H Q → t σ H Q) : PT X e t' := ⟨fun pins s σ H Q I q => h.run pins s σ H Q I (i σ H Q q)⟩
theorem PW.imp {e : Expr} {t t' : TT} (h : PW X e t) (i : ∀ σ H Q, t' σ H Q → t σ H Q) : PW X e t' := ⟨fun w pins s σ H Q I q => h.run w pins s σ H Q I (i σ H Q q)⟩
theorem PA.imp {e : List Expr} {t t' : TA} (h : PA X e t) (i : ∀ σ H Q, t' σ H Q → t σ H Q) : PA X e t' := ⟨fun p pins s σ H Q I q => h.run p pins s σ H Q I (i σ H Q q)⟩
theorem PS.imp {st : Stmt} {t t' : TS} (h : PS X st t) (i : ∀ D σ H, t' D σ H → t D σ H) : PS X st t' := ⟨fun pins s σ H D I q => h.run pins s σ H D I (i D σ H q)⟩
theorem PSs.imp {st : List Stmt} {t t' : TS} (h : PSs X st t) (i : ∀ D σ H, t' D σ H → t D σ H) : PSs X st t' := ⟨fun pins s σ H D I q => h.run pins s σ H D I (i D σ H q)⟩
theorem PI.imp {tg e : Expr} {t t' : TI} (h : PI X tg e t) (i : ∀ σ H Q, t' σ H Q → t σ H Q) : PI X tg e t' := ⟨fun pins s σ H Q I q => h.run pins s σ H Q I (i σ H Q q)⟩
theorem PO.imp {e : Option Expr} {t t' : TO} (h : PO X e t) (i : ∀ σ H Q, t' σ H Q → t σ H Q) : PO X e t' := by
  cases h with
  | mk run => exact ⟨fun pins s σ H Q I q => run pins s σ H Q I (i σ H Q q)⟩
end
end L2
namespace En
open PySem PySem.Spec PyProof.Rows L2
theorem truth_bl {H0 : Hp} {M : AS} {Hs H : Hp} {v : V} {r : Rv} {b : Bool} (h : RvOk H0 M Hs H v r) (e : truth r = .ok b) : v = .bl b := by
  unfold truth at e
  split at e
  · cases e
    cases h
    rfl
  · cases e
section
variable {X : Cx} {Γ : FT} {E : XK} {k : Nat}
theorem pt_of {m : ME} {e : Expr} (h : PE X e (tE Γ E X.mg m)) (he : ∀ whole, isTrue e X.env whole = (do let v ← whole; standAt e.pos; holding [v] (truthy v))) : PT X e (tT Γ E X.mg m) :=
  PT.imp (pt_val h he) fun σ H Q ⟨H0, M0, M, env, ok, q⟩ => ⟨H0, M0, M, env, ok, (Rp.bind q).imp fun r e1 hr v H' s rv => by
    cases e2 : truth r with
    | bad => rw [e2] at hr; exact hr.elim
    | err x =>
      cases r with
      | fr m d => cases d <;> simp [truth] at e2
      | ow m d => simp [truth] at e2
      | bo m d => simp [truth] at e2
      | mt _ _ => simp [truth] at e2
    | ok b =>
      rw [e2] at hr
      exact ⟨b, truth_bl rv e2, hr H' s⟩⟩
/-- a value from a test's answer -/
theorem boot_bi {f : Str} {u : Value} (h : biV f = some u) : bootBuiltins f = some u ∧ f ≠ "__name__" ∧ (f == ("__debug__" : Str)) = false ∧ f ∈ ([("len" : Str), "list", "tuple", "sum", "min", "max", "int", "any", "all", "sorted", "isinstance", "range", "zip", "enumerate", "reversed", "str", "bool", "set", "dict"] : List Str) := by
  unfold biV at h
  repeat' (split at h)
  all_goals first
    | (rename_i e; subst e; cases h; exact ⟨by decide +kernel, by decide, by decide, by decide⟩)
    | exact nomatch h
theorem biV_ty {f : Str} {u : Value} (h : biV f = some u) : (∃ n, u = .builtin n) ∨ ∃ n, u = .type n := by
  unfold biV at h
  repeat' (split at h)
  all_goals first
    | (cases h; first | exact .inl ⟨_, rfl⟩ | exact .inr ⟨_, rfl⟩)
    | exact nomatch h
theorem gl_of {x : Str} (h : glOk X.env.scope x = true) : Gl X x ∧ (x == ("__debug__" : Str)) = false := by
  unfold glOk at h
  simp only [Bool.and_eq_true, decide_eq_true_eq, Bool.not_eq_true'] at h
  exact h
theorem pe_v {i : Nat} {x : Str} {pos : Pos} (h : slotOk X.N X.env.scope i x = true) : PE X (.Name x pos) (tVar i) := by
  unfold slotOk at h
  simp only [Bool.and_eq_true, Bool.or_eq_true, decide_eq_true_eq, Bool.not_eq_true'] at h
  obtain ⟨⟨⟨h1, h2⟩, h3⟩, h4⟩ := h
  refine pe_var h1 ?_ h3 h4
  rcases h2 with h2 | h2
  · unfold kL at h2
    split at h2
    · rename_i e; exact .inl e
    · rename_i e; exact .inr (.inl e)
    · cases h2
  · exact .inr (.inr h2)
end
end En

set_option Elab.async false
set_option linter.all false
set_option maxRecDepth 100000
set_option maxHeartbeats 4000000
namespace En
open PySem PySem.Spec PyProof.Rows L2

def tyN : D → String
  | .none => "NoneType"
  | .bool _ => "bool"
  | .int _ => "int"
  | .str _ => "str"
  | .list _ => "list"
  | .tuple _ => "tuple"
  | .dict _ => "dict"
theorem ty_cn {K : PySem.W.Frag} {H : Hp} {L : AS} {x : V} {d : D} (h : Cn H L x d) : TyX K H x (.type (tyN d)) := by
  cases h with
  | non => exact .base .non
  | bl b => exact .base (.bl b)
  | int i => exact .base (.int i)
  | str z => exact .base (.str z)
  | lst r s =>
    rcases r with r | ⟨o, r⟩
    · exact .base (.lst r)
    · exact .base (.frz r)
  | tup r s =>
    exact .base (.tup r)
  | dK r e s => exact .base (.dK r)
  | dT r e s => exact .base (.dT r)
def tyS (T : Str) : String := if T = "str" then "str" else if T = "bool" then "bool" else if T = "int" then "int" else if T = "list" then "list" else "tuple"
theorem isi_kit {K : PySem.W.Frag} {d : D} {T : Str} {b : Bool} (h : semIsi d T = some b) : PySem.W.kitOne K (.type (tyN d)) (.type (tyS T)) = some b := by
  unfold semIsi at h
  split at h
  · rename_i e
    rw [show tyS T = "str" from by rw [e]; decide +kernel]
    cases d <;> cases h <;> first
      | exact kit_ty (show kitB "NoneType" "str" = some false from by decide +kernel)
      | exact kit_ty (show kitB "bool" "str" = some false from by decide +kernel)
      | exact kit_ty (show kitB "int" "str" = some false from by decide +kernel)
      | exact kit_ty (show kitB "str" "str" = some true from by decide +kernel)
      | exact kit_ty (show kitB "list" "str" = some false from by decide +kernel)
      | exact kit_ty (show kitB "tuple" "str" = some false from by decide +kernel)
      | exact kit_ty (show kitB "dict" "str" = some false from by decide +kernel)
  split at h
  · rename_i e
    rw [show tyS T = "bool" from by rw [e]; decide +kernel]
    cases d <;> cases h <;> first
      | exact kit_ty (show kitB "NoneType" "bool" = some false from by decide +kernel)
      | exact kit_ty (show kitB "bool" "bool" = some true from by decide +kernel)
      | exact kit_ty (show kitB "int" "bool" = some false from by decide +kernel)
      | exact kit_ty (show kitB "str" "bool" = some false from by decide +kernel)
      | exact kit_ty (show kitB "list" "bool" = some false from by decide +kernel)
      | exact kit_ty (show kitB "tuple" "bool" = some false from by decide +kernel)
      | exact kit_ty (show kitB "dict" "bool" = some false from by decide +kernel)
  split at h
  · rename_i e
    rw [show tyS T = "int" from by rw [e]; decide +kernel]
    cases d <;> cases h <;> first
      | exact kit_ty (show kitB "NoneType" "int" = some false from by decide +kernel)
      | exact kit_ty (show kitB "bool" "int" = some true from by decide +kernel)
      | exact kit_ty (show kitB "int" "int" = some true from by decide +kernel)
      | exact kit_ty (show kitB "str" "int" = some false from by decide +kernel)
      | exact kit_ty (show kitB "list" "int" = some false from by decide +kernel)
      | exact kit_ty (show kitB "tuple" "int" = some false from by decide +kernel)
      | exact kit_ty (show kitB "dict" "int" = some false from by decide +kernel)
  split at h
  · rename_i e
    rw [show tyS T = "list" from by rw [e]; decide +kernel]
    cases d <;> cases h <;> first
      | exact kit_ty (show kitB "NoneType" "list" = some false from by decide +kernel)
      | exact kit_ty (show kitB "bool" "list" = some false from by decide +kernel)
      | exact kit_ty (show kitB "int" "list" = some false from by decide +kernel)
      | exact kit_ty (show kitB "str" "list" = some false from by decide +kernel)
      | exact kit_ty (show kitB "list" "list" = some true from by decide +kernel)
      | exact kit_ty (show kitB "tuple" "list" = some false from by decide +kernel)
      | exact kit_ty (show kitB "dict" "list" = some false from by decide +kernel)
  split at h
  · rename_i e
    rw [show tyS T = "tuple" from by rw [e]; decide +kernel]
    cases d <;> cases h <;> first
      | exact kit_ty (show kitB "NoneType" "tuple" = some false from by decide +kernel)
      | exact kit_ty (show kitB "bool" "tuple" = some false from by decide +kernel)
      | exact kit_ty (show kitB "int" "tuple" = some false from by decide +kernel)
      | exact kit_ty (show kitB "str" "tuple" = some false from by decide +kernel)
      | exact kit_ty (show kitB "list" "tuple" = some false from by decide +kernel)
      | exact kit_ty (show kitB "tuple" "tuple" = some true from by decide +kernel)
      | exact kit_ty (show kitB "dict" "tuple" = some false from by decide +kernel)
  · exact nomatch h
theorem boot_ty {T : Str} (h : (decide (T = "str") || decide (T = "bool") || decide (T = "int") || decide (T = "list") || decide (T = "tuple")) = true) :
    bootBuiltins T = some (.type (tyS T)) ∧ T ≠ "__name__" ∧ (T == ("__debug__" : Str)) = false ∧ T ∈ ([("len" : Str), "list", "tuple", "sum", "min", "max", "int", "any", "all", "sorted", "isinstance", "range", "zip", "enumerate", "reversed", "str", "bool", "set", "dict"] : List Str) := by
  simp only [Bool.or_eq_true, decide_eq_true_eq] at h
  rcases h with (((h | h) | h) | h) | h <;> subst h <;> exact ⟨by decide +kernel, by decide, by decide, by decide⟩
theorem starts_eq (z y : Str) : Txt.startswith z y = (z.cps.toList.take y.length == y.cps.toList) := by
  unfold Txt.startswith
  rw [PySem.StrLaws.subAt_eq, List.drop_zero, Nat.zero_add]
  by_cases h : y.length ≤ z.length
  · rw [decide_eq_true h, Bool.true_and]
  · rw [decide_eq_false h, Bool.false_and]
    symm
    rw [beq_eq_false_iff_ne]
    intro e
    have := congrArg List.length e
    rw [List.length_take] at this
    have h1 : z.cps.toList.length = z.length := by simp [Str.length]
    have h2 : y.cps.toList.length = y.length := by simp [Str.length]
    omega

section
variable {X : Cx} {Γ : FT} {E : XK} {k : Nat}
/-- a chain of two readings -/
theorem mt_ok_join : MtR X "str.join" (fun x xs H Q => ∃ L d ds nw z, Cn H L x d ∧ Cns H L xs ds ∧ m_join d ds = some (nw, z) ∧ ∀ v, Dt H Any v z → nw = false → Q v H) := by
  intro pins s σ H x xs v us Q I rx rs h
  obtain ⟨L, d, ds, nw, z, cx, cs, hf, q⟩ := h
  cases cx <;> try (simp only [m_join, reduceCtorEq] at hf)
  cases cs with
  | nil => simp [m_join] at hf
  | cons c cs =>
    cases cs with
    | cons _ _ => cases c <;> simp [m_join] at hf
    | nil =>
      cases c <;> simp only [m_join, reduceCtorEq] at hf
      rename_i r s1
      rename_i zz a ys l
      cases e : allO isStr l with
      | none => rw [e] at hf; exact nomatch hf
      | some ss =>
        rw [e] at hf
        simp only [Option.bind_some] at hf
        split at hf
        · rename_i hz
          cases hf
          have := strs_of s1 e
          subst this
          refine mt_join pins s σ H _ _ _ us Q I rx rs ⟨zz, a, ss, rfl, rfl, .inl (.inl r), ?_, ?_⟩
          · have := fits_le hz
            rw [sizeLine_eq] at this
            exact this
          · have e2 : (⟨(TL.joinL zz.cps.toList (ss.map TL.tl)).toArray⟩ : Str) = Txt.join zz ss := by
              rw [TL.join_eq]
              apply TL.ext_tl
              rw [TL.tl_join]
            rw [← e2]
            exact q _ (.str _) rfl
        · exact nomatch hf
theorem mt_ok_starts : MtR X "str.startswith" (fun x xs H Q => ∃ L d ds nw z, Cn H L x d ∧ Cns H L xs ds ∧ m_startswith d ds = some (nw, z) ∧ ∀ v, Dt H Any v z → nw = false → Q v H) := by
  intro pins s σ H x xs v us Q I rx rs h
  obtain ⟨L, d, ds, nw, z, cx, cs, hf, q⟩ := h
  cases cx <;> try (simp only [m_startswith, reduceCtorEq] at hf)
  cases cs with
  | nil => simp [m_startswith] at hf
  | cons c cs =>
    cases cs with
    | cons _ _ => cases c <;> simp [m_startswith] at hf
    | nil =>
      cases c <;> simp only [m_startswith, reduceCtorEq] at hf
      cases hf
      refine mt_startswith pins s σ H _ _ _ us Q I rx rs ⟨_, _, rfl, rfl, ?_⟩
      rw [starts_eq]
      exact q _ (.bl _) rfl
theorem mt_ok_count : MtR X "str.count" (fun x xs H Q => ∃ L d ds nw z, Cn H L x d ∧ Cns H L xs ds ∧ m_count d ds = some (nw, z) ∧ ∀ v, Dt H Any v z → nw = false → Q v H) := by
  intro pins s σ H x xs v us Q I rx rs h
  obtain ⟨L, d, ds, nw, z, cx, cs, hf, q⟩ := h
  cases cx <;> try (simp only [m_count, reduceCtorEq] at hf)
  cases cs with
  | nil => simp [m_count] at hf
  | cons c cs =>
    cases cs with
    | cons _ _ => cases c <;> simp [m_count] at hf
    | nil =>
      cases c <;> simp only [m_count, reduceCtorEq] at hf
      cases hf
      exact mt_count pins s σ H _ _ _ us Q I rx rs ⟨_, _, rfl, rfl, q _ (.int _) rfl⟩
theorem sc_count {d : D} {ds : List D} {nw : Bool} {z : D} (h : m_count d ds = some (nw, z)) : nw = false ∧ sc z = true := by
  unfold m_count at h
  split at h
  · cases h; exact ⟨rfl, rfl⟩
  · exact nomatch h
theorem sc_join {d : D} {ds : List D} {nw : Bool} {z : D} (h : m_join d ds = some (nw, z)) : nw = false ∧ sc z = true := by
  unfold m_join at h
  split at h
  · rename_i zz l
    cases e : allO isStr l with
    | none => rw [e] at h; exact nomatch h
    | some ss =>
      rw [e] at h
      simp only [Option.bind_some] at h
      split at h
      · cases h; exact ⟨rfl, rfl⟩
      · exact nomatch h
  · exact nomatch h
theorem sc_starts {d : D} {ds : List D} {nw : Bool} {z : D} (h : m_startswith d ds = some (nw, z)) : nw = false ∧ sc z = true := by
  unfold m_startswith at h
  split at h
  · cases h; exact ⟨rfl, rfl⟩
  · exact nomatch h
end
/-! ### the call -/
theorem RvOk.ans {H0 : Hp} {M0 : AS} {Hs H1 H' : Hp} {M Mc : AS} {σ : L2.St} {env : List Sl} {v : V} {r r' : Rv} {lent : Bool} (ok : EnvOk H0 M0 H1 M σ env) (s0 : Same Hs H1) (hM : lent = false → Mc = M) (h : RvOk H1 Mc H1 H' v r)
    (e : En.ans lent r = .ok r') : RvOk H0 M Hs H' v r' := by
  have low : ∀ a, Lm H1 Mc false a → Lm H0 M false a := fun a q => ⟨(ok.fresh (q.2 rfl)).1, fun _ => (ok.fresh (q.2 rfl)).2⟩
  have mid : ∀ {m : Bool}, (lent && m) = false → ∀ a, Lm H1 Mc m a → Lm H0 M m a := fun {m} hc a q => by
    cases m with
    | false => exact low a q
    | true =>
      have : lent = false := by simpa using hc
      rw [hM this] at q
      exact ⟨q.1, fun z => nomatch z⟩
  cases r with
  | fr m d =>
    simp only [En.ans] at e
    split at e
    · cases e
    · rename_i hc
      cases e
      have h : Dt H' (Lm H1 Mc m) v d := h
      show Dt H' (Lm H0 M (m && !imm d)) v d
      cases q : imm d with
      | true => exact Dt.imm d v q h
      | false =>
        rw [q] at hc
        have hc' : (lent && m) = false := by simpa using hc
        have := h.wk (mid hc')
        simpa using this
  | ow m d =>
    obtain ⟨a, rfl, h1, h2, h3, t⟩ := h
    have fin : ∀ {m' : Bool} {d' : D}, Ob H' (fun b => Lm H0 M m' b ∧ b ≠ a) a d' → RvOk H0 M Hs H' (.ref a) (.ow m' d') := fun t' => ⟨a, rfl, s0.free h1, (ok.fresh h1).1, (ok.fresh h1).2, t'⟩
    cases d with
    | list ds =>
      simp only [En.ans] at e
      split at e
      · cases e
      · rename_i hc
        cases e
        cases t with
        | lst q s =>
          refine fin (.lst q ?_)
          cases qi : imms ds with
          | true => exact Dts.imm ds _ qi s
          | false =>
            rw [qi] at hc
            have hc' : (lent && m) = false := by simpa using hc
            have := s.wk (L' := fun b => Lm H0 M m b ∧ b ≠ a) fun b q => ⟨mid hc' b q.1, q.2⟩
            simpa using this
    | _ =>
      simp only [En.ans] at e
      split at e
      · cases e
      · rename_i hc
        cases e
        exact fin (t.wk fun b q => ⟨mid (by simpa using hc) b q.1, q.2⟩)
  | bo m d => cases e
  | mt _ _ => cases e
theorem args_ok {H0 : Hp} {M0 : AS} {Hs H1 : Hp} {M : AS} {σ : L2.St} {env : List Sl} {vs : List V} {rs : List Rv} (ok : EnvOk H0 M0 H1 M σ env) (h : RvOks H0 M Hs H1 vs rs) :
    ∃ Mc : AS, (∀ a, Mc a → M a) ∧ (rs.any isBo = false → Mc = M) ∧ Dts H1 (fun a => ¬ Mc a) vs (rs.map Rv.d) := by
  by_cases hb : rs.any isBo = false
  · refine ⟨M, fun _ q => q, fun _ => rfl, ?_⟩
    induction h with
    | nil => exact .nil
    | @cons v vs r rs h1 h2 ih =>
      rw [List.any_cons, Bool.or_eq_false_iff] at hb
      refine .cons ?_ (ih hb.2)
      cases r with
      | fr m d => exact Dt.wk (fun a q => q.1) h1
      | ow m d =>
        obtain ⟨a, rfl, _, h2, _, t⟩ := h1
        exact (t.wk (L' := fun a => ¬ M a) fun a q => q.1.1).dt h2
      | bo m d => simp [isBo] at hb
      | mt _ _ => exact h1.elim
  · refine ⟨fun a => M a ∧ V.ref a ∉ vs, fun _ q => q.1, fun q => absurd q hb, ?_⟩
    have key : ∀ {ws : List V} {qs : List Rv}, RvOks H0 M Hs H1 ws qs → (∀ w ∈ ws, w ∈ vs) → Dts H1 (fun a => ¬ (M a ∧ V.ref a ∉ vs)) ws (qs.map Rv.d) := by
      intro ws qs hq
      induction hq with
      | nil => intro _; exact .nil
      | @cons v ws r qs h1 h2 ih =>
        intro hw
        refine .cons ?_ (ih fun w hm => hw w (List.mem_cons_of_mem _ hm))
        have hv : v ∈ vs := hw v List.mem_cons_self
        cases r with
        | fr m d => exact Dt.wk (fun a q z => q.1 z.1) h1
        | ow m d =>
          obtain ⟨a, rfl, _, h2, _, t⟩ := h1
          exact (t.wk (L' := fun a => ¬ (M a ∧ V.ref a ∉ vs)) fun a q z => q.1.1 z.1).dt fun z => h2 z.1
        | bo m d =>
          have h1 : Cn H1 (Lm H0 M m) v d := h1
          have c2 := h1.wk (L' := fun a => ¬ (M a ∧ V.ref a ∉ vs)) fun a q z => q.1 z.1
          show Dt _ _ v d
          cases c2 with
          | non => exact .non
          | bl b => exact .bl b
          | int i => exact .int i
          | str z => exact .str z
          | lst r s => exact .lst (fun z => z.2 hv) r s
          | tup r s => exact .tup r s
          | dK r e s => exact .dK (fun z => z.2 hv) r e s
          | dT r e s => exact .dT (fun z => z.2 hv) r e s
        | mt _ _ => exact h1.elim
    exact key h fun _ q => q
end En

set_option Elab.async false
set_option linter.all false
set_option maxRecDepth 100000
set_option maxHeartbeats 4000000
namespace En
open PySem PySem.Spec PyProof.Rows L2

/-! ### the block of a comprehension -/
theorem wipe_get {σ : L2.St} : ∀ {vs : List Nat} {i : Nat}, i ∉ vs → (wipe σ vs)[i]? = σ[i]?
  | [], _, _ => rfl
  | v :: vs, i, h => by
    simp only [List.mem_cons, not_or] at h
    unfold wipe
    rw [List.getElem?_set_ne (Ne.symm h.1)]
    exact wipe_get h.2
theorem wipe_in {σ : L2.St} : ∀ {vs : List Nat} {i : Nat}, i ∈ vs → i < σ.length → (wipe σ vs)[i]? = some none
  | v :: vs, i, h, hl => by
    unfold wipe
    by_cases e : v = i
    · subst e
      rw [List.getElem?_set_self (by rw [wipe_length]; exact hl)]
    · rw [List.getElem?_set_ne e]
      exact wipe_in (by simpa [Ne.symm e] using h) hl
theorem wipe_ext {σ τ : L2.St} {vs : List Nat} (hl : τ.length = σ.length) (h : ∀ i, i ∉ vs → τ[i]? = σ[i]?) : wipe τ vs = wipe σ vs := by
  apply List.ext_getElem?
  intro i
  by_cases hi : i ∈ vs
  · by_cases hlt : i < σ.length
    · rw [wipe_in hi hlt, wipe_in hi (by rw [hl]; exact hlt)]
    · rw [List.getElem?_eq_none (by rw [wipe_length]; omega), List.getElem?_eq_none (by rw [wipe_length]; omega)]
  · rw [wipe_get hi, wipe_get hi, h i hi]
/-- slots are changed to data -/
theorem EnvOk.ch {H0 : Hp} {M0 : AS} {H : Hp} {M : AS} {σ σ' : L2.St} {env env' : List Sl} (ok : EnvOk H0 M0 H M σ env) (l1 : σ'.length = env'.length)
    (h : ∀ (i : Nat) (s : Sl), env'[i]? = some s → (env[i]? = some s ∧ σ'[i]? = σ[i]?) ∨ (ownAt (some s) = none ∧ SlOk H0 H M (σ'[i]?) s)) : EnvOk H0 M0 H M σ' env' := by
  refine ⟨l1, ok.same, ok.m0, ok.dom, fun i s e => ?_, fun i j a e1 e2 s1 s2 => ?_⟩
  · rcases h i s e with ⟨q, r⟩ | ⟨_, q⟩
    · rw [r]; exact ok.sl i s q
    · exact q
  · have key : ∀ {l : Nat}, (ownAt env'[l]?).isSome = true → (ownAt env[l]?).isSome = true ∧ σ'[l]? = σ[l]? := fun {l} e => by
      cases q : env'[l]? with
      | none => rw [q] at e; cases e
      | some s =>
        rcases h l s q with ⟨q1, r1⟩ | ⟨q1, _⟩
        · rw [q1, ← q]
          exact ⟨e, r1⟩
        · rw [q, q1] at e
          cases e
    obtain ⟨f1, r1⟩ := key e1
    obtain ⟨f2, r2⟩ := key e2
    exact ok.dis i j a f1 f2 (r1 ▸ s1) (r2 ▸ s2)
theorem EnvOk.set_fr {H0 : Hp} {M0 : AS} {H : Hp} {M : AS} {σ : L2.St} {env : List Sl} (ok : EnvOk H0 M0 H M σ env) {i : Nat} {v : V} {m : Bool} {d : D} (t : Dt H (Lm H0 M m) v d) (hi : i < env.length) : EnvOk H0 M0 H M (σ.set i (some v)) (env.set i (.fr m d)) := by
  refine ok.ch (by rw [List.length_set, List.length_set]; exact ok.len) fun j s e => ?_
  by_cases hj : i = j
  · subst hj
    rw [List.getElem?_set_self hi] at e
    cases e
    refine .inr ⟨rfl, v, ?_, t⟩
    rw [List.getElem?_set_self (by rw [ok.len]; exact hi)]
  · rw [List.getElem?_set_ne hj] at e
    exact .inl ⟨e, List.getElem?_set_ne hj⟩
theorem EnvOk.wipe {H0 : Hp} {M0 : AS} {H : Hp} {M : AS} {σ : L2.St} {env : List Sl} (ok : EnvOk H0 M0 H M σ env) (vs : List Nat) : EnvOk H0 M0 H M (L2.wipe σ vs) (vs.foldr (fun i e => e.set i .no) env) := by
  induction vs with
  | nil => exact ok
  | cons v vs ih =>
    show EnvOk H0 M0 H M ((L2.wipe σ vs).set v none) ((vs.foldr (fun i e => e.set i .no) env).set v .no)
    refine ih.ch (by rw [List.length_set, List.length_set]; exact ih.len) fun j s e => ?_
    by_cases hj : v = j
    · subst hj
      have hv := (List.getElem?_eq_some_iff.mp e).1
      rw [List.length_set] at hv
      rw [List.getElem?_set_self hv] at e
      cases e
      exact .inr ⟨rfl, trivial⟩
    · rw [List.getElem?_set_ne hj] at e
      exact .inl ⟨e, List.getElem?_set_ne hj⟩
/-- an unseen object is kept from the others -/
theorem EnvOk.add {H0 : Hp} {M0 : AS} {H H1 : Hp} {M : AS} {σ : L2.St} {env : List Sl} (ok : EnvOk H0 M0 H M σ env) {p : Addr} (hp : H p = none) (s : Same H H1) (hq : ∃ o, H1 p = some o ∧ Mut (some o)) : EnvOk H0 M0 H1 (fun a => M a ∨ a = p) σ env := by
  have key : ∀ {m : Bool}, ∀ a u, Lm H0 M m a → H a = some u → H1 a = some u ∧ Lm H0 (fun a => M a ∨ a = p) m a := fun {m} a u l e => ⟨s _ _ e, fun z => z.elim l.1 fun q => (by rw [q, hp] at e; cases e), l.2⟩
  refine ⟨ok.len, ok.same.trans s, fun a q => ⟨.inl (ok.m0 a q).1, (ok.m0 a q).2⟩, fun a q => ?_, fun i t e => ?_, ok.dis⟩
  · rcases q with q | q
    · obtain ⟨o, e, t⟩ := ok.dom a q
      exact ⟨o, s _ _ e, t⟩
    · rw [q]; exact hq
  · have h := ok.sl i t e
    cases t with
    | no => trivial
    | fr m d =>
      obtain ⟨v, q, t⟩ := h
      exact ⟨v, q, Dt.go key (fun _ _ r => s _ _ r) _ _ t⟩
    | ow m d =>
      obtain ⟨a, q, x, y, t⟩ := h
      obtain ⟨o, q2, _⟩ := t.there
      exact ⟨a, q, .inl x, y, t.go ((s _ _ q2).trans q2.symm) key fun _ _ r => s _ _ r⟩
    | pt v => exact h
    | kn v m d => exact ⟨h.1, Dt.go key (fun _ _ r => s _ _ r) _ _ h.2⟩
    | ko a m d =>
      obtain ⟨q, x, y, t⟩ := h
      obtain ⟨o, q2, _⟩ := t.there
      exact ⟨q, .inl x, y, t.go ((s _ _ q2).trans q2.symm) key fun _ _ r => s _ _ r⟩

/-! ### targets -/
def gSet (l : List Nat) : TGs := fun vs σ H Q => vs.length = l.length ∧ Q ((l.zip vs).foldl (fun s p => s.set p.1 (some p.2)) σ) H
section
variable {X : Cx}
/-- names of the def itself, or of the block -/
def FnIn (X : Cx) (sc : Scope) : Prop := ∀ x, (sc.names.lookup x = some .local → X.env.scope.names.lookup x = some .local) ∧ (sc.names.lookup x = some .cell → X.env.scope.names.lookup x = some .cell ∧ X.fn x = true)
theorem pg_ok {sc : Scope} {i : Nat} {e : Expr} (nd : X.N.Nodup) (f : FnIn X sc) (h : tgOk X.N sc i e = true) : PG X e (gName i) := by
  cases e with
  | Name x pos =>
    simp only [tgOk, Bool.and_eq_true, decide_eq_true_eq] at h
    obtain ⟨h1, h2⟩ := h
    unfold kL at h2
    split at h2
    · rename_i q
      exact pg_name nd h1 (.inl ((f x).1 q)) (.inr ((f x).1 q))
    · rename_i q
      exact pg_name nd h1 (.inr ((f x).2 q).1) (.inl ((f x).2 q).2)
    · cases h2
  | _ => cases h
theorem tgs_each {sc : Scope} {N : List Str} {env : Env} : ∀ {l : List Nat} {es : List Expr}, tgsOk N sc l es = true → (assignEach es env) = es.map (fun e => (false, assign e env)) ∧ es.length = l.length
  | [], [], _ => ⟨rfl, rfl⟩
  | i :: l, e :: es, h => by
    simp only [tgsOk, Bool.and_eq_true] at h
    obtain ⟨a, b⟩ := tgs_each (env := env) h.2
    cases e with
    | Name x pos => exact ⟨by show (false, assign (.Name x pos) env) :: assignEach es env = _; rw [a]; rfl, by rw [List.length_cons, List.length_cons, b]⟩
    | _ => simp [tgOk] at h
  | [], _ :: _, h => by simp [tgsOk] at h
  | _ :: _, [], h => by simp [tgsOk] at h
theorem pgs_ok {sc : Scope} (nd : X.N.Nodup) (f : FnIn X sc) : ∀ {l : List Nat} {es : List Expr}, tgsOk X.N sc l es = true → PGs X es (gSet l)
  | [], [], _ => ⟨fun pins s σ H vs us Q I r h => by
      obtain ⟨h1, h2⟩ := h
      cases vs with
      | nil => exact pgs_nil.run pins s σ H [] us Q I r ⟨rfl, h2⟩
      | cons _ _ => simp at h1⟩
  | i :: l, e :: es, h => by
    have ha := (tgs_each (env := X.env) h).1
    simp only [tgsOk, Bool.and_eq_true] at h
    have hb := (tgs_each (env := X.env) h.2).1
    have := pgs_cons (pg_ok nd f h.1) (pgs_ok nd f h.2) (by rw [ha, hb]; rfl)
    exact ⟨fun pins s σ H vs us Q I r hw => by
      obtain ⟨h1, h2⟩ := hw
      cases vs with
      | nil => simp at h1
      | cons v vs =>
        exact this.run pins s σ H (v :: vs) us Q I r ⟨v, vs, rfl, by simpa using h1, h2⟩⟩
  | [], _ :: _, h => by simp [tgsOk] at h
  | _ :: _, [], h => by simp [tgsOk] at h
/-- (a, b, ..) = a tuple or a list of that length -/
def gTL (K : PySem.W.Frag) (n : Nat) (t : TGs) : TG := fun v σ H Q => ∃ a xs, v = .ref a ∧ (SqT K H a xs ∨ SqL K H a xs) ∧ xs.length = n ∧ t xs σ H Q
theorem pg_tl {X : Cx} {pos : Pos} {es : List Expr} {k : Nat} {t : TGs} {n : Nat} (hc : X.calm = true) (h : PGs X es t)
    (hn : (assignEach es X.env).length = n) (hst : (assignEach es X.env).findIdx? (·.1) = none) : PG X (.Tuple es k pos) (gTL X.K n t) := by
  refine ⟨fun pins s σ H v u Q I r hw => ?_⟩
  obtain ⟨a, xs, e1, hq, hl, hw⟩ := hw
  rcases hq with hq | hq
  · exact (pg_tup (k := k) (pos := pos) hc h hn hst).run pins s σ H v u Q I r ⟨a, xs, e1, hq, hl, hw⟩
  · exact (pg_lst (k := k) (pos := pos) hc h hn hst).run pins s σ H v u Q I r ⟨a, xs, e1, hq, hl, hw⟩
/-- a target's reading -/
def gOf (X : Cx) : MG → TG
  | .n i => gName i
  | .t l => gTL X.K l.length (gSet l)
theorem g_ok {sc : Scope} {g : MG} {e : Expr} (nd : X.N.Nodup) (hc : X.calm = true) (f : FnIn X sc) (h : okG X.N sc g e = true) : PG X e (gOf X g) := by
  cases g with
  | n i => exact pg_ok nd f h
  | t l =>
    cases e with
    | Tuple es kk pos =>
      have h : tgsOk X.N sc l es = true := h
      have ha := tgs_each (env := X.env) h
      refine pg_tl hc (pgs_ok nd f h) (by rw [ha.1, List.length_map, ha.2]) ?_
      rw [ha.1]
      rw [List.findIdx?_eq_none_iff]
      intro x hx
      obtain ⟨e, _, rfl⟩ := List.mem_map.mp hx
      rfl
    | _ => cases h
end
theorem sets_get {vs : List V} {σ : L2.St} : ∀ {l : List Nat} {i : Nat}, i ∉ l → ((l.zip vs).foldl (fun s p => s.set p.1 (some p.2)) σ)[i]? = σ[i]? := by
  intro l
  induction l generalizing vs σ with
  | nil => intro i _; rfl
  | cons a l ih =>
    intro i h
    simp only [List.mem_cons, not_or] at h
    cases vs with
    | nil => rfl
    | cons v vs =>
      rw [List.zip_cons_cons, List.foldl_cons, ih h.2]
      exact List.getElem?_set_ne (Ne.symm h.1)
theorem sets_len {vs : List V} {σ : L2.St} : ∀ {l : List Nat}, ((l.zip vs).foldl (fun s p => s.set p.1 (some p.2)) σ).length = σ.length := by
  intro l
  induction l generalizing vs σ with
  | nil => rfl
  | cons a l ih =>
    cases vs with
    | nil => rfl
    | cons v vs => rw [List.zip_cons_cons, List.foldl_cons, ih, List.length_set]
theorem setAll_ok {H0 : Hp} {M0 : AS} {H : Hp} {M : AS} {m : Bool} : ∀ {l : List Nat} {ds : List D} {vs : List V} {σ : L2.St} {env env' : List Sl}, EnvOk H0 M0 H M σ env → Dts H (Lm H0 M m) vs ds → setAll m l ds env = .ok env' →
    vs.length = l.length ∧ EnvOk H0 M0 H M ((l.zip vs).foldl (fun s p => s.set p.1 (some p.2)) σ) env'
  | [], [], vs, σ, env, env', ok, t, e => by
    cases t
    cases e
    exact ⟨rfl, ok⟩
  | i :: l, d :: ds, vs, σ, env, env', ok, t, e => by
    obtain ⟨v, ws, rfl, t1, t2⟩ := t.cons_inv'
    unfold setAll at e
    split at e
    · rename_i hi
      obtain ⟨a, b⟩ := setAll_ok (ok.set_fr t1 hi) t2 e
      exact ⟨by rw [List.length_cons, List.length_cons, a], b⟩
    · cases e
  | [], _ :: _, _, _, _, _, _, _, e => by cases e
  | _ :: _, [], _, _, _, _, _, _, e => by cases e
/-- a target bound -/
theorem bind_ok {X : Cx} {H0 : Hp} {M0 : AS} {H : Hp} {M : AS} {m : Bool} {g : MG} {d : D} {x : V} {σ : L2.St} {env env' : List Sl} {Q : L2.St → Hp → Prop} (ok : EnvOk H0 M0 H M σ env) (t : Dt H (Lm H0 M m) x d) (e : bindG g m d env = .ok env')
    (q : ∀ σ', EnvOk H0 M0 H M σ' env' → (∀ i, i ∉ idx g → σ'[i]? = σ[i]?) → σ'.length = σ.length → Q σ' H) : gOf X g x σ H Q := by
  cases g with
  | n i =>
    simp only [bindG] at e
    split at e
    · rename_i hi
      cases e
      refine q _ (ok.set_fr t hi) (fun j hj => List.getElem?_set_ne fun z => hj (by simp [idx, z])) (by rw [List.length_set])
    · cases e
  | t l =>
    cases d <;> simp only [bindG, reduceCtorEq] at e
    rename_i ds
    cases t with
    | @tup a xs _ r s =>
      obtain ⟨h1, h2⟩ := setAll_ok ok s e
      exact ⟨a, xs, rfl, .inl (.inl (.inl r)), h1, h1, q _ h2 (fun j hj => sets_get hj) sets_len⟩
theorem bind_wipe {m : Bool} {g : MG} {d : D} {env env' : List Sl} (e : bindG g m d env = .ok env') : bindG g m d ((idx g).foldr (fun i e => e.set i .no) env) = .ok env' := by
  cases g with
  | n i =>
    simp only [bindG, idx, List.foldr_cons, List.foldr_nil, List.length_set] at e ⊢
    split at e
    · rename_i hi
      cases e
      rw [if_pos hi, List.set_set]
    · cases e
  | t l =>
    cases d <;> simp only [bindG, idx, reduceCtorEq] at e ⊢
    rename_i ds
    have key : ∀ (l : List Nat) (ds : List D) (E1 E2 env' : List Sl), E1.length = E2.length → (∀ i, i ∉ l → E1[i]? = E2[i]?) → setAll m l ds E1 = .ok env' → setAll m l ds E2 = .ok env' := by
      intro l
      induction l with
      | nil =>
        intro ds E1 E2 env' hl h e
        cases ds with
        | nil =>
          cases e
          have : E1 = E2 := List.ext_getElem? fun i => h i (by simp)
          rw [this]; rfl
        | cons _ _ => cases e
      | cons i l ih =>
        intro ds E1 E2 env' hl h e
        cases ds with
        | nil => cases e
        | cons d ds =>
          unfold setAll at e ⊢
          split at e
          · rename_i hi
            rw [if_pos (by rw [← hl]; exact hi)]
            refine ih ds _ _ env' (by rw [List.length_set, List.length_set]; exact hl) (fun j hj => ?_) e
            by_cases hij : i = j
            · subst hij
              rw [List.getElem?_set_self hi, List.getElem?_set_self (by rw [← hl]; exact hi)]
            · rw [List.getElem?_set_ne hij, List.getElem?_set_ne hij]
              exact h j (by simp [Ne.symm hij, hj])
          · cases e
    have len : ∀ (l : List Nat), (l.foldr (fun i e => e.set i Sl.no) env).length = env.length := by
      intro l
      induction l with
      | nil => rfl
      | cons a l ih => rw [List.foldr_cons, List.length_set, ih]
    have get : ∀ (l : List Nat) (i : Nat), i ∉ l → (l.foldr (fun i e => e.set i Sl.no) env)[i]? = env[i]? := by
      intro l
      induction l with
      | nil => intro i _; rfl
      | cons a l ih =>
        intro i h
        simp only [List.mem_cons, not_or] at h
        rw [List.foldr_cons, List.getElem?_set_ne (Ne.symm h.1)]
        exact ih i h.2
    exact key l ds env _ env' (len l).symm (fun i hi => (get l i hi).symm) e
end En

set_option Elab.async false
set_option linter.all false
set_option maxRecDepth 100000
set_option maxHeartbeats 8000000
namespace En
open PySem PySem.Spec PyProof.Rows L2

/-! ### set(x), x a list: whatever the filling of the set comes to -/
section
variable {P : Program} {w : World} {A : Around} {E : Value → Shared → Prop} {s : Shared}
def set0 (w : World) : Obj := { cls := .type "set", dict := none, data := .set #[] 0 (.fresh 0 0 (!w.params.followText "set-order")) }
def Fill (P : Program) (w : World) (A : Around) (l : Addr) (items : Array Value) (Post : Heap → Addr → Prop) : Prop :=
  ∀ (S I : Addr) (s₁ : Shared) (R : Result → Shared → Prop) (St : Nat → Shared → Prop), S ≠ I → S ≠ l → s₁.heap.get? S = some (set0 w) → St 0 s₁ →
    WalksS P w A.in1.in1.in1 I [I, l] [I] (fun a b => b = a) items.size (fun i v => items[i]? = some v) St → (∀ s', Moved [S, I] (fun a b => b = a) s₁ s' → Post s'.heap S → R (.ok (.ret .none)) s') →
    codeAny (model P w) A.in1.in1 (.builtin "set.update.loop" ⟨[.ref S, .ref I], []⟩) R s₁
set_option maxRecDepth 100000 in
set_option maxHeartbeats 6400000 in
theorem setOfL {l : Addr} {items : Array Value} {Post : Heap → Addr → Prop} {Q : Value → Shared → Prop} (hh : A.handled = none) (hl : s.heap.IsList l items) (fill : Fill P w A l items Post)
    (q : ∀ (h' : Heap) (tk : Nat), Post h' s.heap.objs.size → (∀ b o, s.heap.get? b = some o → h'.get? b = some o) → Q (.ref s.heap.objs.size) { s with heap := h', toks := tk }) : wpAny (model P w) A (call (.type "set") [.ref l]) Q E s := by
  have ⟨c, tl, hmro⟩ := PySem.F.called_set.mro
  have k1 := PySem.F.called_set.made
  have k2 := PySem.F.called_set.sub
  refine wpAny_call (codeAny_of_tree ?_)
  change wpAny _ _ (callAny (.type "set") _) _ _ _
  refine wpAny_pure ⟨Code.quiet_builtin _ (by decide +kernel), codeAny_builtin PySem.F.entry_type_call ?_⟩
  rw [Around.under_plain (weight_type_call_type "set" [.ref l] []) rfl]
  have k3 := PySem.F.called_set.notType
  have k4 := PySem.F.called_set.canCreate
  have k5 := PySem.F.typeCall_set_1 (.ref l)
  repeat any_goals first | assumption | wp_step
  let S := s.heap.objs.size
  let h₁ := s.heap.push (set0 w)
  have made := code_set_led1 (P := P) (w := w) (A := A.in1) (s := s) (E := E) (.ref l) (Q₁ := fun v t => v = .ref S ∧ t = { s with heap := h₁ }) ⟨rfl, rfl⟩
  refine codeAny_mono made fun r t ht => ?_
  rcases r with e | fl
  · exact ht
  rcases fl
  case ret v =>
    obtain ⟨rfl, rfl⟩ := ht
    have gS : h₁.get? S = some (set0 w) := Heap.get?_push_size _ rfl
    have tS : Shared.TypeIs { s with heap := h₁ } (.ref S) "set" := ⟨_, gS, rfl⟩
    have n1 := PySem.F.called_set.init.lookup
    have n2 := PySem.F.called_set.init.bind (.ref S)
    repeat any_goals first | assumption | wp_step
    refine codeAny_mono (codeAny_call_builtin (R := wants (fun r t => r = .none ∧ ∃ h' tk, t = { s with heap := h', toks := tk } ∧ Post h' S ∧ ∀ b o, s.heap.get? b = some o → h'.get? b = some o) E) PySem.F.called_set.init.plain PySem.F.entry_set_init (check_set_init_1 tS ?_)) fun r t ht => ?_
    · have ⟨⟨_, _, _, _⟩, g1, g2, nl, g3⟩ := hl
      simp only at g2 g3
      subst g2 g3
      have g4 := Heap.get?_push_of_some (set0 w) g1
      have u1 := PySem.F.sub_list_set
      have u2 := PySem.F.sub_list_frozenset
      have u3 : (Value.type "list" == Value.type "dict") = false := by decide
      have gL : h₁.IsList l items := ⟨_, g4, rfl, nl, rfl⟩
      have lS : l < S := Heap.lt_size g1
      have zI : h₁.objs.size = S + 1 := Heap.size_push ..
      unfold Builtin.«set.__init__» noKeywords Builtin.Frozenset.updateFrom
      generalize hPI : pyIter = PI
      wp_walk
      subst hPI
      refine wpAny_pyIter_list gL (wpAny_bind (wpAny_runValue ?_))
      have hI : S ≠ h₁.objs.size := by omega
      have hlI : l ≠ h₁.objs.size := Nat.ne_of_lt (Nat.lt_trans lS (by rw [zI]; exact Nat.lt_succ_self _))
      have h3 : A.in1.in1.in1.handled = none := by simp [hh]
      have W := (Walks.list (prog := P) (w := w) h3 h₁.objs.size l hlI items).toS
      refine fill S h₁.objs.size _ _ _ hI (Nat.ne_of_gt lS) ?_ ?_ W fun t m p => ?_
      · exact Heap.get?_push_of_some _ gS
      · exact ⟨⟨_, Heap.get?_push_size _ rfl, rfl, rfl⟩, gL.push _⟩
      obtain ⟨h', g', d', tk', o'⟩ := t
      cases (show g' = s.gens from m.gens)
      cases (show d' = s.drawn from m.drawn)
      cases (show o' = s.os from m.os)
      refine wpAny_pure (wpAny_pure ⟨rfl, h', tk', rfl, p, fun b o e => ?_⟩)
      have hb : b < S := Heap.lt_size e
      have hc : b ∉ [S, h₁.objs.size] := by
        simp only [List.mem_cons, List.not_mem_nil, or_false, not_or]
        exact ⟨Nat.ne_of_lt hb, Nat.ne_of_lt (Nat.lt_trans hb (by rw [zI]; exact Nat.lt_succ_self _))⟩
      exact m.heap b o hc (Heap.get?_push_of_some _ (Heap.get?_push_of_some _ e))
    · rcases r with e | fl
      · exact ht
      rcases fl
      case ret v =>
        obtain ⟨rfl, h', tk, rfl, p, k⟩ := ht
        repeat any_goals first | assumption | wp_step
        exact q _ _ p k
      all_goals exact ht.elim
  all_goals exact ht.elim
/-- of ints -/
theorem fill_ints {l : Addr} {items : Array Value} {ns : List Int} (hi : IntsAre items.toList ns) (hb : ns.length + 1 < scanBound) : Fill P w A l items fun h a => ∃ c, c ≤ ns.length ∧ SetR w h a (fun j => decide (j ∈ ns)) c := by
  intro S I s₁ R St h1 h2 g st W q
  have hn : items.size = ns.length := by
    have := hi.length
    rwa [Array.length_toList] at this
  refine set_update_ints W S (by simp [h1, h2]) ns hn hb (fun i v e => ?_) items.size 0 s₁ rfl (Nat.zero_le _) st ⟨0, Nat.le_refl _, setR_new_at g⟩ fun s' c m hc r => q s' m ⟨c, by omega, r⟩
  obtain ⟨t, z⟩ := hi.int_at i v (by rw [Array.getElem?_toList]; exact e)
  have hl : i < ns.length := by rw [← hn]; exact (Array.getElem?_eq_some_iff.mp e).1
  exact ⟨ns[i], t, List.getElem?_eq_getElem hl, by rw [z, List.getD_eq_getElem?_getD, List.getElem?_eq_getElem hl]; rfl⟩
end
/-- sorted(set(x)), x a list of ints -/
def tSset (ta : TE) : TE := fun σ H Q => ta σ H fun v H1 => ∃ (l : Addr) (ns : List Int), v = .ref l ∧ Rd H1 l (.lst (ns.map V.int)) ∧ ns.length < 63 ∧ ∀ (ms : List Int) (p : Addr), ms.Pairwise (· < ·) → (∀ k : Int, k ∈ ms ↔ k ∈ ns) → H1 p = none → Q (.ref p) (upd H1 p (.lst (ms.map V.int)))
theorem pe_sset {X : Cx} {a : Expr} {ta : TE} {p p2 q pos : Pos} (hc : X.calm = true) (hg : Gl X "sorted") (hm : X.mg "sorted" = none) (hg2 : Gl X "set") (hm2 : X.mg "set" = none) (ha : PE X a ta)
    (na : starEach [a] X.env = (false, eval a X.env) :: starEach [] X.env) : PE X (.Call (.Name "sorted" p) [.Call (.Name "set" p2) [a] [] q] [] pos) (tSset ta) := by
  refine ⟨fun pins s σ H Q I h => ?_⟩
  have b1 : bootBuiltins "sorted" = some (.builtin "sorted") := by decide +kernel
  refine Call_ (ld_blt I hg hm b1 (PyProof.Rows.callWith_builtin1 (PyProof.Rows.args_cons ?_ rfl) rfl rfl))
  refine Call_ (ld_blt I hg2 hm2 boot_set ?_)
  refine PyProof.Rows.callWith_type1 (PyProof.Rows.args_cons (thn (ha.run pins s σ H _ I h) fun v s1 ⟨x, H1, I1, r1, q1⟩ => PyProof.Rows.args_nil ?_) na) na rfl
  obtain ⟨l, ns, rfl, hq, h63, q1⟩ := q1
  cases r1
  obtain ⟨its, n, r, hl, g⟩ := (lstR I1 hq).2
  have hi : IntsAre its.toArray.toList ns := by simpa using r.ints
  refine setOfL (I1.ok.hd hc) (show s1.heap.IsList l its.toArray from ⟨_, g, rfl, n, rfl⟩) (fill_ints hi (by unfold scanBound; omega)) fun h' tk ⟨c, c1, R⟩ k => PyProof.Rows.args_nil ?_
  have I2 : Inv X pins σ H1 { s1 with heap := h', toks := tk } := I1.kept k
  refine sorted_set R (I1.ok.hd hc) (by omega) fun s' p' out c' ms k' g' o' hp hg' hi' hs hm' hl' => ?_
  have hlen : (ms.map V.int).length ≤ sizeLine := by rw [List.length_map, hl', sizeLine_eq]; omega
  have hn : H1 p' = none := I2.hok.fresh hp
  have J : Inv X pins σ (upd H1 p' (.lst (ms.map V.int))) { ({ s1 with heap := h', toks := tk } : Shared) with heap := s'.heap, gens := s'.gens, drawn := s'.drawn, toks := s'.toks } :=
    I2.call (ch := []) (Un.laid k' hp hn) (I2.hok.laid k' hp ⟨hlen, out.toList, c', vals_of_ints hi', hg'⟩) (by rw [g']; exact I2.bare) (fun _ z => nomatch z)
  have e : s' = { ({ s1 with heap := h', toks := tk } : Shared) with heap := s'.heap, gens := s'.gens, drawn := s'.drawn, toks := s'.toks } := by
    obtain ⟨_, _, _, _, _⟩ := s'
    cases o'
    rfl
  rw [e]
  exact ⟨.ref p', _, J, rfl, q1 ms p' hs (fun k => by rw [hm' k]; simp) hn⟩
theorem once_mem {α : Type} [DecidableEq α] (x : α) : ∀ l : List α, x ∈ once l ↔ x ∈ l
  | [] => by simp [once]
  | y :: l => by
    rw [once]
    split
    · rename_i h
      rw [once_mem x l]
      constructor
      · exact fun z => List.mem_cons_of_mem _ z
      · intro z
        rcases List.mem_cons.mp z with z | z
        · rw [z]; exact h
        · exact z
    · rw [List.mem_cons, List.mem_cons, once_mem x l]
theorem once_nd {α : Type} [DecidableEq α] : ∀ l : List α, (once l).Nodup
  | [] => by simp [once]
  | y :: l => by
    rw [once]
    split
    · exact once_nd l
    · rename_i h
      exact List.nodup_cons.mpr ⟨fun z => h ((once_mem y l).mp z), once_nd l⟩
theorem once_uniq {ms ns : List Int} (hs : ms.Pairwise (· < ·)) (hm : ∀ k : Int, k ∈ ms ↔ k ∈ ns) : ms = sortI (once ns) := by
  refine sortI_uniq ?_ (hs.imp fun h => by omega)
  refine (List.perm_ext_iff_of_nodup (hs.imp fun h z => by omega) (once_nd ns)).mpr fun k => ?_
  rw [hm, once_mem]
theorem semSet_ok {H : Hp} {L : AS} {v : V} {d d' : D} (c : Cn H L v d) (e : semSet d = some d') : ∃ (l : Addr) (ns : List Int), v = .ref l ∧ Rd H l (.lst (ns.map V.int)) ∧ ns.length < 63 ∧ d' = .list ((sortI (once ns)).map .int) := by
  cases c <;> simp only [semSet, reduceCtorEq] at e
  rename_i a xs ds r s
  cases e1 : allO isInt ds with
  | none => rw [e1] at e; cases e
  | some ns =>
    rw [e1] at e
    simp only [Option.bind_some] at e
    split at e
    · rename_i h
      cases e
      have := ints_of s e1
      subst this
      exact ⟨a, ns, rfl, r, h, rfl⟩
    · cases e
end En

set_option Elab.async false
set_option linter.all false
set_option maxRecDepth 100000
set_option maxHeartbeats 8000000
namespace En
open PySem PySem.Spec PyProof.Rows L2

theorem fnIn_blk {X : Cx} {s : Shared} {H : Hp} {scope : Scope} {cl : List (Str × Addr)} {C : Addr} {fp : List Addr} : FnIn (X.blk s H scope (compEnvC scope cl C X.env) fp) scope := fun x =>
  ⟨fun h => lookup_relS_keep (by decide) h, fun h => ⟨lookup_relS_keep (by decide) h, by show (scope.names.lookup x == some .cell) = true; rw [h]; rfl⟩⟩
theorem ok_blk {X : Cx} {Γ : FT} {E : XK} {k : Nat} (ok : Ok X Γ E k) {s : Shared} {H : Hp} {scope : Scope} {cl : List (Str × Addr)} {C : Addr} {fp : List Addr} : Ok (X.blk s H scope (compEnvC scope cl C X.env) fp) Γ (fun _ _ _ => False) k :=
  ⟨ok.calm, ok.nd, ok.hu, ok.room, takes0, ok.blt, ok.fns⟩
section
variable (Γ : FT) (E : XK) (mg : Str → Option Value)
def tBv (con : Bool) (ms : MEs) : TE := fun σ H Q => ∃ H0 M0 M env, EnvOk H0 M0 H M σ env ∧ Rp E mg H (evB Γ env con ms) fun b => ∀ H', Same H H' → Q (.bl b) H'
def tBt (con : Bool) (ms : MEs) : TT := fun σ H Q => ∃ H0 M0 M env, EnvOk H0 M0 H M σ env ∧ Rp E mg H (evB Γ env con ms) fun b => ∀ H', Same H H' → Q b H'
def tI (it : MI) : TI := fun σ H R => ∃ H0 M0 M env, EnvOk H0 M0 H M σ env ∧ Rp E mg H (evI Γ env it) fun p => ∀ J H', Same H H' → Wk H' (Lm H0 M p.1) J p.2 → R J H'
end
def bOp (con : Bool) : BoolOp := if con then .And else .Or
theorem stos_ne : ∀ (rs : List Rv) (x : Str), stos rs ≠ .err x
  | [], _ => by simp [stos]
  | r :: rs, x => by
    intro z
    unfold stos at z
    cases r with
    | bo m d => simp [sto, R.bind] at z
    | mt _ _ => simp [sto, R.bind] at z
    | fr m d =>
      simp only [sto, R.bind] at z
      cases hz : stos rs with
      | bad => rw [hz] at z; cases z
      | err y => exact stos_ne rs y hz
      | ok y => rw [hz] at z; cases z
    | ow m d =>
      simp only [sto, R.bind] at z
      cases hz : stos rs with
      | bad => rw [hz] at z; cases z
      | err y => exact stos_ne rs y hz
      | ok y => rw [hz] at z; cases z
theorem ans_ne (l : Bool) (r : Rv) (x : Str) : ans l r ≠ .err x := by
  cases r with
  | fr m d => simp only [ans]; split <;> simp
  | ow m d => cases d <;> simp only [ans] <;> split <;> simp
  | bo m d => simp [ans]
  | mt _ _ => simp [ans]
theorem rg_dts {H : Hp} {L : AS} (a b : Int) (n : Nat) (h : (b - a).toNat = n) : Dts H L (rgV a b) (rngD a n) := by
  unfold rgV rngD
  rw [h]
  generalize List.range n = l
  induction l with
  | nil => exact .nil
  | cons x l ih => exact .cons (.int _) ih
theorem no_setI {N : List Str} {sc : Scope} {it : MI} {tg e : Expr} {env : Env} (h : okI N sc it tg e = true) : ∀ x, foldedSetIterable e env x = pure x := by
  intro x
  cases e with
  | Set a k p => cases it <;> simp [okI, ok_set] at h
  | _ => rfl
theorem RvOks.back {H0 : Hp} {M : AS} {Hs Hs' H : Hp} {vs : List V} {rs : List Rv} (e : Same Hs' Hs) (h : RvOks H0 M Hs H vs rs) : RvOks H0 M Hs' H vs rs := by
  induction h with
  | nil => exact .nil
  | cons a _ ih => exact .cons (a.back e) ih
theorem okEs_nil {N : List Str} {sc : Scope} {ms : MEs} (h : okEs N sc ms [] = true) : ms = .nil := by
  cases ms with
  | nil => rfl
  | cons _ _ => simp [okEs] at h
/-! sorted with a def as its key -/
theorem keyR_ok {r : R Rv} {k : Int} (h : keyR r = .ok k) : ∃ m, r = .ok (.fr m (.int k)) := by
  unfold keyR at h
  split at h
  · cases h; exact ⟨_, rfl⟩
  · cases h
theorem keyR_ne (r : R Rv) (x : Str) : keyR r ≠ .err x := by
  unfold keyR
  split <;> simp
theorem keysR_ne (g : List D → R Rv) : ∀ (ds : List D) (x : Str), keysR g ds ≠ .err x
  | [], x => by simp [keysR]
  | d :: ds, x => by
    intro h
    unfold keysR at h
    cases e1 : keyR (g [d]) with
    | bad => rw [e1] at h; cases h
    | err y => exact keyR_ne _ _ e1
    | ok k =>
      rw [e1] at h
      cases e2 : keysR g ds with
      | bad => simp only [R.bind, e2] at h; cases h
      | err y => exact keysR_ne g ds _ e2
      | ok ks => simp only [R.bind, e2] at h; cases h
theorem keysR_cons {g : List D → R Rv} {d : D} {ds : List D} {ks : List Int} (h : keysR g (d :: ds) = .ok ks) : ∃ k l, ks = k :: l ∧ keyR (g [d]) = .ok k ∧ keysR g ds = .ok l := by
  unfold keysR at h
  cases e1 : keyR (g [d]) with
  | bad => rw [e1] at h; cases h
  | err y => rw [e1] at h; cases h
  | ok k =>
    rw [e1] at h
    cases e2 : keysR g ds with
    | bad => simp only [R.bind, e2] at h; cases h
    | err y => simp only [R.bind, e2] at h; cases h
    | ok l =>
      simp only [R.bind, e2] at h
      cases h
      exact ⟨k, l, rfl, rfl, rfl⟩
theorem keysR_len {g : List D → R Rv} : ∀ {ds : List D} {ks : List Int}, keysR g ds = .ok ks → ks.length = ds.length
  | [], ks, h => by
    have h : (R.ok [] : R (List Int)) = .ok ks := h
    cases h; rfl
  | d :: ds, ks, h => by
    obtain ⟨k, l, rfl, _, h2⟩ := keysR_cons h
    rw [List.length_cons, List.length_cons, keysR_len h2]
theorem keysR_at {g : List D → R Rv} : ∀ {ds : List D} {ks : List Int}, keysR g ds = .ok ks → ∀ {i : Nat} {d : D} {k : Int}, ds[i]? = some d → ks[i]? = some k → ∃ m, g [d] = .ok (.fr m (.int k))
  | [], ks, h, i, d, k, hd, hk => by simp at hd
  | e :: ds, ks, h, i, d, k, hd, hk => by
    obtain ⟨k', l, rfl, h1, h2⟩ := keysR_cons h
    cases i with
    | zero =>
      simp at hd hk
      subst hd hk
      exact keyR_ok h1
    | succ i => exact keysR_at h2 (i := i) (by simpa using hd) (by simpa using hk)
theorem zip3L : ∀ {ks : List Int} {xs : List V} {ds : List D}, xs.length = ds.length → ks.zip xs = (ks.zip (xs.zip ds)).map fun q => (q.1, q.2.1)
  | [], _, _, _ => rfl
  | _ :: _, [], _, _ => by simp
  | _ :: _, _ :: _, [], h => by simp at h
  | k :: ks, x :: xs, d :: ds, h => by
    simp only [List.zip_cons_cons, List.map_cons]
    rw [zip3L (ks := ks) (xs := xs) (ds := ds) (by simpa using h)]
theorem zip3R : ∀ {ks : List Int} {xs : List V} {ds : List D}, xs.length = ds.length → ks.zip ds = (ks.zip (xs.zip ds)).map fun q => (q.1, q.2.2)
  | [], _, _, _ => rfl
  | _ :: _, [], [], _ => by simp
  | _ :: _, [], _ :: _, h => by simp at h
  | _ :: _, _ :: _, [], h => by simp at h
  | k :: ks, x :: xs, d :: ds, h => by
    simp only [List.zip_cons_cons, List.map_cons]
    rw [zip3R (ks := ks) (xs := xs) (ds := ds) (by simpa using h)]
theorem Dts.zipM {H : Hp} {L : AS} : ∀ {xs : List V} {ds : List D}, Dts H L xs ds → ∀ p ∈ xs.zip ds, Dt H L p.1 p.2
  | [], _, h, p, hp => by simp at hp
  | x :: xs, _, h, p, hp => by
    cases h with
    | cons a b =>
      rcases List.mem_cons.mp hp with rfl | hp
      · exact a
      · exact b.zipM p hp
theorem dts_of3 {H : Hp} {L : AS} : ∀ {T : List (Int × (V × D))}, (∀ p ∈ T, Dt H L p.2.1 p.2.2) → Dts H L (T.map fun p => p.2.1) (T.map fun p => p.2.2)
  | [], _ => .nil
  | p :: T, h => .cons (h p List.mem_cons_self) (dts_of3 fun q hq => h q (List.mem_cons_of_mem _ hq))
theorem srt_dts {H : Hp} {L : AS} {ks : List Int} {xs : List V} {ds : List D} (h : Dts H L xs ds) : Dts H L ((srtK (ks.zip xs)).map (·.2)) ((srtK (ks.zip ds)).map (·.2)) := by
  rw [zip3L (ks := ks) h.length, zip3R (ks := ks) h.length, srtK_map, srtK_map, List.map_map, List.map_map]
  exact dts_of3 fun p hp => h.zipM _ (List.of_mem_zip ((srtK_ok _).2.perm.mem_iff.mp hp)).2
theorem srk_data {K : PySem.W.Frag} {mg : Str → Option Value} {fa l : Addr} {g : List D → R Rv} {H0 : Hp} {M0 : AS} {Hs H : Hp} {M : AS} {σ : L2.St} {env : List Sl} {ds : List D} {xs : List V} {ks : List Int} {m : Bool} {Q : VK} (ok : EnvOk H0 M0 H M σ env) (s1 : Same Hs H) (r' : Rd H l (.lst xs)) (s' : Dts H (Lm H0 M m) xs ds) (ek : keysR g ds = .ok ks)
    (q : ∀ v H', Same Hs H' → RvOk H0 M Hs H' v (.ow m (.list ((srtK (ks.zip ds)).map (·.2)))) → Q v H') : rSrk K fa (spG mg 1 g) [.ref l] [.ref fa] H Q := by
  refine ⟨l, xs, ks, rfl, rfl, .inl r', by rw [keysR_len ek, s'.length], fun i x k hx hk H' sm => ?_, fun p H' sm hp => ?_⟩
  · obtain ⟨d, hd, dt⟩ := s'.getV hx
    obtain ⟨b, hg⟩ := keysR_at ek hd hk
    refine ⟨rfl, M, [d], fun a ha => ?_, .cons ((sm_dt sm dt).wk fun a l => l.1) .nil, ?_⟩
    · obtain ⟨o, e, mu⟩ := ok.dom a ha
      exact ⟨o, sm _ _ e, mu⟩
    · rw [hg]
      intro v H'' s2 rv
      have rv : Dt H'' _ v (.int k) := rv
      cases rv
      exact ⟨rfl, s2⟩
  · exact q _ _ ((s1.trans sm).trans (same_new hp)) (zn_rv (m := m) (nw := true) (ok.up sm) (s1.trans sm) (zn_new hp (sm_dts sm (srt_dts s'))))
theorem mkE {X : Cx} {Γ : FT} {E : XK} {m : ME} {e : Expr} (h : PE X e (tE Γ E X.mg m)) (he : ∀ whole, isTrue e X.env whole = (do let v ← whole; standAt e.pos; holding [v] (truthy v))) : PE X e (tE Γ E X.mg m) ∧ PT X e (tT Γ E X.mg m) := ⟨h, pt_of h he⟩
/-- a truth's reading -/
theorem rp_truth {E : XK} {mg : Str → Option Value} {H0 : Hp} {M : AS} {Hs H H1 : Hp} {r : Rv} {k : Bool → Prop} {v : V} (q : Rp E mg H1 (truth r) k) (rv : RvOk H0 M Hs H v r) : ∃ b, v = .bl b ∧ k b := by
  cases e : truth r with
  | bad => rw [e] at q; exact q.elim
  | err x =>
    cases r with
    | fr m d => cases d <;> simp [truth] at e
    | ow m d => simp [truth] at e
    | bo m d => simp [truth] at e
    | mt _ _ => simp [truth] at e
  | ok b =>
    rw [e] at q
    exact ⟨b, truth_bl rv e, q⟩
theorem sc_sc {H0 : Hp} {M : AS} {Hs H : Hp} {v : V} {r : Rv} {i : Int} (h : RvOk H0 M Hs H v r) (e : r.d = .int i) : v = .int i := by
  have := h.cn
  rw [e] at this
  cases this
  rfl
theorem semIx_int {d i z : D} (h : semIx d i = some z) : ∃ n, i = .int n := by
  cases d <;> cases i <;> simp only [semIx, reduceCtorEq] at h <;> exact ⟨_, rfl⟩
theorem Rp.same2 {E : XK} {mg : Str → Option Value} {α β : Type} {H H1 : Hp} {r : R α} {f : α → R β} {k : β → Prop} (h : Rp E mg H (r.bind f) k) (e : Same H H1) : Rp E mg H1 r fun a => Rp E mg H (f a) k := (Rp.bind h).same e
theorem rv_top {H0 : Hp} {M : AS} {Hs H : Hp} {r : Rv} {v : V} (rv : RvOk H0 M Hs H v r) (hb : isBo r = false) : ∀ a, v = .ref a → (∃ l, r.d = .list l) → Lm H0 M r.m a := fun a ea hd => by
  obtain ⟨l, hl⟩ := hd
  cases r with
  | fr m d =>
    have hl : d = .list l := hl
    subst hl
    cases rv with
    | lst q _ _ =>
      cases ea
      exact q
  | ow m d =>
    obtain ⟨b, rfl, _, h1, h2, _⟩ := rv
    cases ea
    exact ⟨h1, fun _ => h2⟩
  | bo m d => simp [isBo] at hb
  | mt _ _ => exact rv.elim
theorem lcR_ne {f : D → R (Option (Bool × D))} (hf : ∀ d x, f d ≠ .err x) : ∀ (ds : List D) (x : Str), lcR f ds ≠ .err x
  | [], _ => by simp [lcR]
  | d :: ds, x => by
    intro z
    unfold lcR at z
    cases e : f d with
    | bad => rw [e] at z; cases z
    | err y => exact hf d y e
    | ok o =>
      rw [e] at z
      simp only [R.bind] at z
      cases e2 : lcR f ds with
      | bad => rw [e2] at z; cases z
      | err y => exact lcR_ne hf ds y e2
      | ok q =>
        rw [e2] at z
        cases o <;> cases z
theorem noErr_ok {α : Type} {r : R α} {a : α} (h : noErr r = .ok a) : r = .ok a := by
  cases r with
  | bad => cases h
  | err x => cases h
  | ok b => cases h; rfl
theorem noErr_ne {α : Type} (r : R α) (x : Str) : noErr r ≠ .err x := by cases r <;> simp [noErr]
theorem R.bind_ok {α β : Type} {r : R α} {f : α → R β} {b : β} (h : r.bind f = .ok b) : ∃ a, r = .ok a ∧ f a = .ok b := by
  cases r with
  | bad => cases h
  | err x => cases h
  | ok a => exact ⟨a, rfl, h⟩
theorem dts_upd {H : Hp} {L : AS} {p : Addr} {o u : HO} {xs : List V} {ds : List D} (hL : ¬ L p) (hp : H p = some u) (ht : ∀ xs, u ≠ .tup xs ∧ ∀ o, u ≠ .frz o (.tup xs)) (h : Dts H L xs ds) : Dts (upd H p o) L xs ds :=
  Dts.go (fun a u l e => ⟨by rw [upd_ne (fun z => hL (by rw [← z]; exact l))]; exact e, l⟩) (fun a ys r => by
    have ne : a ≠ p := fun z => by
      subst z
      rw [hp] at r; cases r; exact (ht ys).1 rfl
    rw [upd_ne ne]; exact r) ds xs h
theorem rp_src {H0 : Hp} {M : AS} {Hs H : Hp} {r : Rv} {v : V} {ds : List D} (rv : RvOk H0 M Hs H v r) (hb : isBo r = false) (e : itemsOf r.d = some ds) : ∃ xs G, SrcOf v xs G ∧ Dts H (Lm H0 M r.m) xs ds ∧ G H ∧ ∀ H' L2, Kp H (Lm H0 M r.m) H' L2 → G H' := by
  refine src_cn rv.cn (fun a ea hd => ?_) e
  obtain ⟨l, hl⟩ := hd
  cases r with
  | fr m d =>
    have hl : d = .list l := hl
    subst hl
    cases rv with
    | lst q _ _ =>
      cases ea
      exact q
  | ow m d =>
    obtain ⟨b, rfl, _, h1, h2, _⟩ := rv
    cases ea
    exact ⟨h1, fun _ => h2⟩
  | bo m d => simp [isBo] at hb
  | mt _ _ => exact rv.elim

theorem lc_imp {Γ : FT} {E : XK} {X : Cx} {g : MG} {it : MI} {c : MO} {elt : ME} (σ : L2.St) (H : Hp) (Q : VK) (h : tE Γ E X.mg (.lc g it c elt) σ H Q) :
    tLc (tI Γ E X.mg it) (gOf X g) (tC Γ (fun _ _ _ => False) X.mg c) (tE Γ (fun _ _ _ => False) X.mg elt) (idx g) σ H Q := by
  obtain ⟨H0, M0, M, env, eo, q⟩ := h
  simp only [evE] at q
  refine ⟨H0, M0, M, env, eo, (Rp.bind q).imp fun p _ q J H1 s1 wk D hD => ?_⟩
  generalize hf : (fun d => noErr ((bindG g p.1 d env).bind fun env' => (evC Γ env' c).bind fun t => if t then ((evE Γ env' elt).bind sto).bind (fun q => .ok (some q)) else .ok none)) = f at q
  have hne : ∀ d x, f d ≠ .err x := fun d x => by rw [← hf]; exact noErr_ne _ _
  cases hr : lcR f p.2 with
  | bad => rw [hr] at q; exact q.elim
  | err x => exact absurd hr (lcR_ne hne _ _)
  | ok r =>
    rw [hr] at q
    simp only [R.bind] at q
    split at q
    · rename_i hz
      have hz := fits_le hz
      obtain ⟨G, Y, w, hG, hY⟩ := wk
      have eD := (eo.up s1).fresh hD
      have kp : ∀ {H2 : Hp}, Same H1 H2 → Kp H1 (Lm H0 M p.1) H2 (Lm H0 (fun a => M a ∨ a = D) p.1) := fun {H2} s => ⟨fun a u l e => ⟨s _ _ e, fun z => z.elim l.1 fun z => (by rw [z, hD] at e; cases e), l.2⟩, fun a xs r => s _ _ r⟩
      refine lc_it w (Qd := Q (.ref D)) (fun i H2 => Same H1 H2 ∧ ∃ acc outs rest, H2 D = some (.lst acc) ∧ Dts H2 (Lm H0 (fun a => M a ∨ a = D) r.1) acc outs ∧ acc.length ≤ i ∧ lcR f (p.2.drop i) = .ok rest ∧ (rest.1 = true → r.1 = true) ∧ r.2 = outs ++ rest.2) ?_ ?_ ?_ ?_
      · exact ⟨same_new hD, [], [], r, upd_same, .nil, Nat.le_refl _, by simpa using hr, fun z => z, rfl⟩
      · rintro i H2 _ ⟨s, _⟩
        exact hG H2 _ (kp s)
      · rintro i v H2 H3 hlt ⟨s, acc, outs, rest, e1, e2, e3, e4, e5, e6⟩ y
        have hd : p.2[i]? = some p.2[i] := List.getElem?_eq_getElem hlt
        rw [List.drop_eq_getElem_cons hlt] at e4
        generalize p.2[i] = d at hd e4
        obtain ⟨s3, t3⟩ := hY i H2 v H3 d _ (kp s) y hd
        unfold lcR at e4
        obtain ⟨o, f1, e4⟩ := R.bind_ok e4
        obtain ⟨rest', f2, e4⟩ := R.bind_ok e4
        rw [← hf] at f1
        obtain ⟨env', b1, f1⟩ := R.bind_ok (noErr_ok f1)
        obtain ⟨t, c1, f1⟩ := R.bind_ok f1
        have s13 := s.trans s3
        have eo3 : EnvOk H0 M0 H3 (fun a => M a ∨ a = D) σ env := (eo.up s1).add hD s13 ⟨_, s3 _ _ e1, trivial⟩
        refine bind_ok (eo3.wipe (idx g)) t3 (bind_wipe b1) fun σ2 eo4 g1 g2 => ⟨?_, ?_⟩
        · rw [wipe_ext (σ := wipe σ (idx g)) (by rw [g2]) g1]
          exact wipe_ext (wipe_length _ _) fun i hi => wipe_get hi
        · refine ⟨H0, M0, _, env', eo4, ?_⟩
          rw [c1]
          intro H4 s4
          cases t with
          | true =>
            rw [if_pos rfl] at f1 ⊢
            obtain ⟨pr, f5, f6⟩ := R.bind_ok f1
            obtain ⟨r1, v1, v2⟩ := R.bind_ok f5
            cases f6
            refine ⟨H0, M0, _, env', eo4.up s4, ?_⟩
            rw [v1]
            intro y' H5 s5 rv
            have s35 := s4.trans s5
            have s25 := s3.trans s35
            have d5 := s25 _ _ e1
            refine ⟨acc, d5, by omega, ?_, acc ++ [y'], outs ++ [pr.2], rest', upd_same, ?_, ?_, f2, ?_, ?_⟩
            · intro b o hb
              rw [upd_ne (ne_of_none hb hD)]
              exact (s.trans s25) _ _ hb
            · cases e4
              refine dts_upd (fun z => z.1 (.inr rfl)) d5 (fun xs => ⟨fun z => (nomatch z), fun o z => (nomatch z)⟩) ((sm_dts s25 e2).append (.cons ((rv.sto v2).wk fun a q => q.le fun z => e5 (by simp [z])) .nil))
            · rw [List.length_append, List.length_singleton]
              omega
            · cases e4
              exact fun z => e5 (by simp [z])
            · cases e4
              rw [e6, List.append_assoc]
              rfl
          | false =>
            rw [if_neg (by simp)] at f1 ⊢
            cases f1
            cases e4
            have s24 := s3.trans s4
            exact ⟨s.trans s24, acc, outs, rest, s24 _ _ e1, sm_dts s24 e2, by omega, f2, e5, e6⟩
      · rintro H2 ⟨s, acc, outs, rest, e1, e2, e3, e4, e5, e6⟩
        rw [List.drop_length] at e4
        cases e4
        rw [List.append_nil] at e6
        refine q _ _ (s1.trans s) ⟨D, rfl, s1.free hD, eD.1, eD.2, ?_⟩
        rw [e6]
        exact .lst e1 (e2.wk fun a l => ⟨⟨fun z => l.1 (.inl z), l.2⟩, fun z => l.1 (.inr z)⟩)
    · exact q.elim
theorem mt_indexB {X : Cx} (hu : X.A.units + 65 < cLine) : MtR X "list.index" (fun x xs H Q => rIndex X.K x xs H Q ∨ rIndexD X.K x xs H Q) := by
  intro pins s σ H x xs v us Q I rx rxs h
  rcases h with h | h
  · exact mt_index pins s σ H x xs v us Q I rx rxs h
  · exact mt_indexD hu pins s σ H x xs v us Q I rx rxs h
section
variable {Γ : FT} {k : Nat}
mutual
theorem sE : ∀ (m : ME) {X : Cx} {E : XK} (e : Expr), Ok X Γ E k → okE X.N X.env.scope m e = true → PE X e (tE Γ E X.mg m) ∧ PT X e (tT Γ E X.mg m)
  | .v i, X, E, e, ok, h => by
    simp only [okE] at h
    split at h
    · refine mkE ((pe_v h).imp fun σ H Q ⟨H0, M0, M, env, eo, q⟩ => by
        simp only [evE, getSl] at q
        split at q
        · rename_i m d e1
          obtain ⟨v, e2, t⟩ := eo.sl i _ e1
          exact ⟨v, e2, q v H (Same.refl _) t⟩
        · rename_i m d e1
          obtain ⟨a, e2, _, _, t⟩ := eo.sl i _ e1
          exact ⟨_, e2, q _ H (Same.refl _) t.cn⟩
        · rename_i v m d e1
          obtain ⟨e2, t⟩ := eo.sl i _ e1
          exact ⟨v, e2, q v H (Same.refl _) t⟩
        · rename_i a m d e1
          obtain ⟨e2, _, _, t⟩ := eo.sl i _ e1
          exact ⟨_, e2, q _ H (Same.refl _) t.cn⟩
        · exact q.elim) fun _ => rfl
    · cases h
  | .kn, X, E, e, ok, h => by
    simp only [okE] at h
    split at h
    · refine mkE ((pe_non (X := X)).imp fun σ H Q ⟨H0, M0, M, env, eo, q⟩ => q _ H (Same.refl _) .non) fun _ => rfl
    · cases h
  | .kb b, X, E, e, ok, h => by
    simp only [okE] at h
    split at h
    · rename_i c _ _
      have hb := of_decide_eq_true h
      subst hb
      refine mkE ((pe_bl (X := X)).imp fun σ H Q ⟨H0, M0, M, env, eo, q⟩ => q _ H (Same.refl _) (.bl b)) fun _ => rfl
    · cases h
  | .ki b, X, E, e, ok, h => by
    simp only [okE] at h
    split at h
    · have hb := of_decide_eq_true h
      subst hb
      refine mkE ((pe_int (X := X)).imp fun σ H Q ⟨H0, M0, M, env, eo, q⟩ => q _ H (Same.refl _) (.int b)) fun _ => rfl
    · cases h
  | .ks b, X, E, e, ok, h => by
    simp only [okE] at h
    split at h
    · have hb := of_decide_eq_true h
      subst hb
      refine mkE ((pe_str (X := X)).imp fun σ H Q ⟨H0, M0, M, env, eo, q⟩ => q _ H (Same.refl _) (.str b)) fun _ => rfl
    · cases h
  | .lst ms, X, E, e, ok, h => by
    simp only [okE] at h
    split at h
    · refine mkE ((pe_lst (sEs ms _ ok h).1).imp fun σ H Q ⟨H0, M0, M, env, eo, q⟩ => by
        simp only [evE] at q
        refine ⟨H0, M0, M, env, eo, (Rp.bind q).imp fun rs _ q vs H1 s1 rv => ?_⟩
        cases es : stos rs with
        | bad => rw [es] at q; exact q.elim
        | err x => exact absurd es (stos_ne _ _)
        | ok p =>
          rw [es] at q
          have d := rv.stos es
          simp only [R.bind] at q
          split at q
          · rename_i hz
            exact ⟨by rw [d.length]; exact fits_le hz, fun a ha => q _ _ (s1.trans (same_new ha)) ⟨a, rfl, s1.free ha, ((eo.up s1).fresh ha).1, ((eo.up s1).fresh ha).2, .lst upd_same (dts_new ha d)⟩⟩
          · exact q.elim) fun _ => rfl
    · cases h
  | .tup ms, X, E, e, ok, h => by
    simp only [okE] at h
    split at h
    · refine mkE ((pe_tup (sEs ms _ ok h).1).imp fun σ H Q ⟨H0, M0, M, env, eo, q⟩ => by
        simp only [evE] at q
        refine ⟨H0, M0, M, env, eo, (Rp.bind q).imp fun rs _ q vs H1 s1 rv => ?_⟩
        cases es : stos rs with
        | bad => rw [es] at q; exact q.elim
        | err x => exact absurd es (stos_ne _ _)
        | ok p =>
          rw [es] at q
          have d := rv.stos es
          simp only [R.bind] at q
          split at q
          · rename_i hz
            exact ⟨by rw [d.length]; exact fits_le hz, fun a ha => q _ _ (s1.trans (same_new ha)) (.tup upd_same (sm_dts (same_new ha) d))⟩
          · exact q.elim) fun _ => rfl
    · cases h
  | .dK0, X, E, e, ok, h => by
    simp only [okE] at h
    split at h
    · refine mkE ((pe_dnewK (X := X)).imp fun σ H Q ⟨H0, M0, M, env, eo, q⟩ => fun a ha =>
        q _ _ (same_new ha) ⟨a, rfl, ha, (eo.fresh ha).1, (eo.fresh ha).2, .dK (kvs := []) upd_same rfl .nil⟩) fun _ => rfl
    · cases h
  | .dT0, X, E, e, ok, h => by
    simp only [okE] at h
    split at h
    · refine mkE ((pe_dnewT (X := X)).imp fun σ H Q ⟨H0, M0, M, env, eo, q⟩ => fun a ha =>
        q _ _ (same_new ha) ⟨a, rfl, ha, (eo.fresh ha).1, (eo.fresh ha).2, .dT (kvs := []) upd_same rfl (.cons .non .nil)⟩) fun _ => rfl
    · cases h
  | .bin op a b, X, E, e, ok, h => by
    simp only [okE] at h
    split at h
    · simp only [Bool.and_eq_true, decide_eq_true_eq] at h
      obtain ⟨⟨rfl, h1⟩, h2⟩ := h
      refine mkE ((pe_op (bin_ok op) (sE a _ ok h1).1 (sE b _ ok h2).1).imp fun σ H Q ⟨H0, M0, M, env, eo, q⟩ => by
        simp only [evE] at q
        refine ⟨H0, M0, M, env, eo, (Rp.bind q).imp fun r _ q v H1 s1 rv => ⟨H0, M0, M, env, eo.up s1, ((Rp.bind q).same s1).imp fun r2 _ q u H2 s2 rv2 => ?_⟩⟩
        obtain ⟨nw, z, e, q⟩ := Rp.lift q
        exact ⟨Lm H0 M (r.m || r2.m), r.d, r2.d, nw, z, (sm_cn s2 rv.cn).wk fun _ => Lm.orl, rv2.cn.wk fun _ => Lm.orr, e, fun v' H3 zn => q v' H3 ((s1.trans s2).trans zn.1) (zn_rv (eo.up (s1.trans s2)) (s1.trans s2) zn)⟩) fun _ => rfl
    · cases h
  | .neg a, X, E, e, ok, h => by
    simp only [okE] at h
    split at h
    · refine mkE ((pe_un un_neg (sE a _ ok h).1).imp fun σ H Q ⟨H0, M0, M, env, eo, q⟩ => by
        simp only [evE] at q
        refine ⟨H0, M0, M, env, eo, (Rp.bind q).imp fun r _ q v H1 s1 rv => ?_⟩
        split at q
        · rename_i i hi
          exact ⟨i, sc_sc rv hi, q _ H1 s1 (.int _)⟩
        · exact q.elim) fun _ => rfl
    · cases h
  | .cmp op a b, X, E, e, ok, h => by
    simp only [okE] at h
    split at h
    · simp only [Bool.and_eq_true, decide_eq_true_eq, Bool.not_eq_true'] at h
      obtain ⟨⟨⟨rfl, hm⟩, h1⟩, h2⟩ := h
      have i : ∀ (σ : L2.St) (H : Hp) (Q : VK), tE Γ E X.mg (.cmp op a b) σ H Q → tOp (rC (semCmp op)) (tE Γ E X.mg a) (tE Γ E X.mg b) σ H Q := fun σ H Q ⟨H0, M0, M, env, eo, q⟩ => by
        simp only [evE] at q
        refine ⟨H0, M0, M, env, eo, (Rp.bind q).imp fun r _ q v H1 s1 rv => ⟨H0, M0, M, env, eo.up s1, ((Rp.bind q).same s1).imp fun r2 _ q u H2 s2 rv2 => ?_⟩⟩
        obtain ⟨b', e, q⟩ := Rp.liftB q
        exact ⟨Lm H0 M (r.m || r2.m), r.d, r2.d, b', (sm_cn s2 rv.cn).wk fun _ => Lm.orl, rv2.cn.wk fun _ => Lm.orr, e, q _ H2 (s1.trans s2) (.bl b')⟩
      refine ⟨(pe_cmpR (cmp_ok ok.hu op) (sE a _ ok h1).1 (sE b _ ok h2).1 hm).imp i, (pt_cmpR (cmp_ok ok.hu op) (sE a _ ok h1).1 (sE b _ ok h2).1 hm).imp fun σ H Q ⟨H0, M0, M, env, eo, q⟩ => ?_⟩
      refine i σ H _ ⟨H0, M0, M, env, eo, (Rp.bind q).imp fun r _ q v H1 s1 rv => ?_⟩
      obtain ⟨b', rfl, q⟩ := rp_truth q rv
      exact ⟨b', rfl, q H1 s1⟩
    · cases h
  | .chn op op2 a b c, X, E, e, ok, h => by
    simp only [okE] at h
    split at h
    · simp only [Bool.and_eq_true, decide_eq_true_eq, Bool.not_eq_true'] at h
      obtain ⟨⟨⟨⟨⟨rfl, rfl⟩, hm⟩, h1⟩, h2⟩, h3⟩ := h
      have i : ∀ (σ : L2.St) (H : Hp) (Q : VK), tE Γ E X.mg (.chn op op2 a b c) σ H Q → tChain (rC (semCmp op)) (rC (semCmp op2)) (tE Γ E X.mg a) (tE Γ E X.mg b) (tE Γ E X.mg c) σ H Q := fun σ H Q ⟨H0, M0, M, env, eo, q⟩ => by
        simp only [evE] at q
        refine ⟨H0, M0, M, env, eo, (Rp.bind q).imp fun r _ q v H1 s1 rv => ⟨H0, M0, M, env, eo.up s1, ((Rp.bind q).same s1).imp fun r2 _ q u H2 s2 rv2 => ?_⟩⟩
        have c1 := (sm_cn s2 rv.cn).wk (L' := Lm H0 M (r.m || r2.m)) fun _ => Lm.orl
        have c2 := rv2.cn.wk (L' := Lm H0 M (r.m || r2.m)) fun _ => Lm.orr
        split at q
        · rename_i e1
          refine ⟨Lm H0 M (r.m || r2.m), r.d, r2.d, true, c1, c2, e1, true, rfl, ?_⟩
          rw [if_pos rfl]
          refine ⟨H0, M0, M, env, eo.up (s1.trans s2), (q.same2 (s1.trans s2)).imp fun r3 _ q w H3 s3 rv3 => ?_⟩
          obtain ⟨b', e, q⟩ := Rp.liftB q
          exact ⟨Lm H0 M (r2.m || r3.m), r2.d, r3.d, b', (sm_cn s3 rv2.cn).wk fun _ => Lm.orl, rv3.cn.wk fun _ => Lm.orr, e, q _ H3 ((s1.trans s2).trans s3) (.bl b')⟩
        · rename_i e1
          refine ⟨Lm H0 M (r.m || r2.m), r.d, r2.d, false, c1, c2, e1, false, rfl, ?_⟩
          rw [if_neg (by simp)]
          exact q _ H2 (s1.trans s2) (.bl false)
        · exact q.elim
      have hm' : lastMarks [op, op2] [_, _] = false := hm
      refine ⟨(pe_chain (cmp_ok ok.hu op) (cmp_ok ok.hu op2) (sE a _ ok h1).1 (sE b _ ok h2).1 (sE c _ ok h3).1 hm').imp i, (pt_chain (cmp_ok ok.hu op) (cmp_ok ok.hu op2) (sE a _ ok h1).1 (sE b _ ok h2).1 (sE c _ ok h3).1 hm').imp fun σ H Q ⟨H0, M0, M, env, eo, q⟩ => ?_⟩
      refine i σ H _ ⟨H0, M0, M, env, eo, (Rp.bind q).imp fun r _ q v H1 s1 rv => ?_⟩
      obtain ⟨b', rfl, q⟩ := rp_truth q rv
      exact ⟨b', rfl, q H1 s1⟩
    · cases h
  | .bop con ms, X, E, e, ok, h => by
    simp only [okE] at h
    have fin : ∀ {es : List Expr} {pos : Pos}, okEs X.N X.env.scope ms es = true → e = .BoolOp (bOp con) es pos → PE X e (tE Γ E X.mg (.bop con ms)) ∧ PT X e (tT Γ E X.mg (.bop con ms)) := fun {es pos} hh he => by
      subst he
      cases es with
      | nil =>
        have bad : ∀ env, evB Γ env con ms = .bad := fun env => by
          rw [okEs_nil hh]
          rfl
        refine ⟨⟨fun pins s σ H Q I ⟨H0, M0, M, env, eo, q⟩ => ?_⟩, ⟨fun pins s σ H Q I ⟨H0, M0, M, env, eo, q⟩ => ?_⟩⟩
        · simp only [evE, bad env] at q
          exact q.elim
        · simp only [evE, bad env] at q
          exact q.elim
      | cons y ys =>
        obtain ⟨p1, p2⟩ := (sEs ms (y :: ys) ok hh).2 con (by simp) pos
        refine ⟨p1.imp fun σ H Q ⟨H0, M0, M, env, eo, q⟩ => ?_, p2.pt.imp fun σ H Q ⟨H0, M0, M, env, eo, q⟩ => ?_⟩
        · simp only [evE] at q
          exact ⟨H0, M0, M, env, eo, (Rp.bind q).imp fun b _ q H1 s1 => q _ H1 s1 (.bl b)⟩
        · simp only [evE] at q
          exact ⟨H0, M0, M, env, eo, (Rp.bind (Rp.bind q)).imp fun b _ q H1 s1 => q H1 s1⟩
    split at h
    · simp only [Bool.and_eq_true] at h
      obtain ⟨hc, h⟩ := h
      subst hc
      exact fin h rfl
    · simp only [Bool.and_eq_true, Bool.not_eq_true'] at h
      obtain ⟨hc, h⟩ := h
      subst hc
      exact fin h rfl
    · cases h
  | .not_ a, X, E, e, ok, h => by
    simp only [okE] at h
    split at h
    · obtain ⟨p1, p2⟩ := sE a _ ok h
      refine ⟨(pe_not p1).imp fun σ H Q ⟨H0, M0, M, env, eo, q⟩ => ?_, (pt_not p2).imp fun σ H Q ⟨H0, M0, M, env, eo, q⟩ => ?_⟩
      · simp only [evE] at q
        refine ⟨H0, M0, M, env, eo, (Rp.bind q).imp fun r _ q v H1 s1 rv => ?_⟩
        obtain ⟨b', rfl, q⟩ := rp_truth (Rp.bind q) rv
        exact ⟨b', rfl, q _ H1 s1 (.bl _)⟩
      · simp only [evE] at q
        refine ⟨H0, M0, M, env, eo, Rp.of_bind ((Rp.bind (Rp.bind q)).imp fun r _ q => (Rp.bind q).imp fun b _ q H1 s1 => q H1 s1)⟩
    · cases h
  | .ite c a b, X, E, e, ok, h => by
    simp only [okE] at h
    split at h
    · simp only [Bool.and_eq_true] at h
      obtain ⟨⟨h1, h2⟩, h3⟩ := h
      obtain ⟨pa, ta⟩ := sE a _ ok h2
      obtain ⟨pb, tb⟩ := sE b _ ok h3
      have pc := (sE c _ ok h1).2
      refine ⟨(pe_ifExp pc pa pb).imp fun σ H Q ⟨H0, M0, M, env, eo, q⟩ => ?_, ⟨fun pins s σ H Q I ⟨H0, M0, M, env, eo, q⟩ => ?_⟩⟩
      · simp only [evE] at q
        refine ⟨H0, M0, M, env, eo, Rp.of_bind ((Rp.bind q).imp fun r _ q => (Rp.bind q).imp fun t _ q H1 s1 => ?_)⟩
        cases t with
        | true => exact ⟨H0, M0, M, env, eo.up s1, (Rp.same q s1).imp fun r _ q v H2 s2 rv => q v H2 (s1.trans s2) (rv.back s1)⟩
        | false => exact ⟨H0, M0, M, env, eo.up s1, (Rp.same q s1).imp fun r _ q v H2 s2 rv => q v H2 (s1.trans s2) (rv.back s1)⟩
      · simp only [evE] at q
        refine isTrue_IfExp (thn (pc.run pins s σ H (fun t H1 => if t = true then tT Γ E X.mg a σ H1 Q else tT Γ E X.mg b σ H1 Q) I ⟨H0, M0, M, env, eo, Rp.of_bind ((Rp.bind (Rp.bind q)).imp fun r _ q => (Rp.bind (Rp.of_bind (Rp.bind q))).imp fun t _ q H1 s1 => ?_)⟩) fun t s1 ⟨H1, I1, q1⟩ => ?_)
        · cases t with
          | true =>
            rw [if_pos rfl] at q ⊢
            exact ⟨H0, M0, M, env, eo.up s1, Rp.of_bind ((Rp.same q s1).imp fun r _ q => (Rp.same q s1).imp fun b _ q H2 s2 => q H2 (s1.trans s2))⟩
          | false =>
            rw [if_neg (by simp)] at q ⊢
            exact ⟨H0, M0, M, env, eo.up s1, Rp.of_bind ((Rp.same q s1).imp fun r _ q => (Rp.same q s1).imp fun b _ q H2 s2 => q H2 (s1.trans s2))⟩
        · cases t with
          | true => exact ta.run pins s1 σ H1 Q I1 q1
          | false => exact tb.run pins s1 σ H1 Q I1 q1
    · cases h
  | .ix a i, X, E, e, ok, h => by
    simp only [okE] at h
    split at h
    · simp only [Bool.and_eq_true] at h
      obtain ⟨h1, h2⟩ := h
      refine mkE ((pe_ix ix_ok (sE a _ ok h1).1 (sE i _ ok h2).1 (plain_ix h2)).imp fun σ H Q ⟨H0, M0, M, env, eo, q⟩ => by
        simp only [evE] at q
        refine ⟨H0, M0, M, env, eo, (Rp.bind q).imp fun r _ q v H1 s1 rv => ⟨H0, M0, M, env, eo.up s1, ((Rp.bind q).same s1).imp fun r2 _ q u H2 s2 rv2 => ?_⟩⟩
        obtain ⟨nw, z, e, q⟩ := Rp.lift q
        cases e2 : semIx r.d r2.d with
        | none => rw [e2] at e; cases e
        | some z' =>
          rw [e2] at e
          cases e
          have c2 : Cn H2 (Lm H0 M r.m) u r2.d := by
            obtain ⟨n, hn⟩ := semIx_int e2
            rw [hn, sc_sc rv2 hn]
            exact .int n
          exact ⟨Lm H0 M r.m, r.d, r2.d, z, sm_cn s2 rv.cn, c2, e2, fun v' t => q v' H2 (s1.trans s2) (zn_rv (eo.up (s1.trans s2)) (s1.trans s2) (zn_dt t))⟩) fun _ => rfl
    · cases h
  | .sl a lo hi, X, E, e, ok, h => by
    simp only [okE] at h
    split at h
    · simp only [Bool.and_eq_true] at h
      obtain ⟨⟨h1, h2⟩, h3⟩ := h
      refine mkE ((pe_slice sl_ok (sE a _ ok h1).1 (sO lo _ ok h2) (sO hi _ ok h3)).imp fun σ H Q ⟨H0, M0, M, env, eo, q⟩ => by
        simp only [evE] at q
        refine ⟨H0, M0, M, env, eo, (Rp.bind q).imp fun r _ q v H1 s1 rv => ⟨H0, M0, M, env, eo.up s1, ((Rp.bind q).same s1).imp fun l _ q H2 s2 => ⟨H0, M0, M, env, eo.up (s1.trans s2), ((Rp.bind q).same (s1.trans s2)).imp fun u _ q H3 s3 => ?_⟩⟩⟩
        obtain ⟨nw, z, e, q⟩ := Rp.lift q
        have s4 := (s1.trans s2).trans s3
        exact ⟨Lm H0 M r.m, r.d, nw, z, sm_cn (s2.trans s3) rv.cn, e, fun v' H4 zn => q v' H4 (s4.trans zn.1) (zn_rv (eo.up s4) s4 zn)⟩) fun _ => rfl
    · cases h
  | .bi f ms, X, E, e, ok, h => by
    simp only [okE] at h
    split at h
    · simp only [Bool.and_eq_true, decide_eq_true_eq] at h
      obtain ⟨⟨⟨rfl, h1⟩, h2⟩, h3⟩ := h
      obtain ⟨u, hu⟩ := Option.isSome_iff_exists.mp h2
      obtain ⟨b1, b2, b3, b4⟩ := boot_bi hu
      have hm := ok.blt f b4
      have sa := (sEs ms _ ok h3).1
      have h3' := h3
      have hst : ∀ x es, okEs X.N X.env.scope ms (x :: es) = true → starEach (x :: es) X.env = (false, eval x X.env) :: starEach es X.env ∧ ∀ pos, (backTo pos (starEach es X.env)).any (·.1) = false := fun x es hh => by
        cases ms with
        | nil => simp [okEs] at hh
        | cons m ms' =>
          simp only [okEs, Bool.and_eq_true] at hh
          exact ⟨star_cons hh.1 es _, fun pos => back_any pos _ (star_none hh.2)⟩
      have i : ∀ (σ : L2.St) (H : Hp) (Q : VK), tE Γ E X.mg (.bi f ms) σ H Q → tCB (rBi f) (tEs Γ E X.mg ms) σ H Q := fun σ H Q ⟨H0, M0, M, env, eo, q⟩ => by
        simp only [evE] at q
        refine ⟨H0, M0, M, env, eo, (Rp.bind q).imp fun rs _ q vs H1 s1 rv => ?_⟩
        obtain ⟨nw, z, e, q⟩ := Rp.lift q
        exact ⟨Lm H0 M (anyM rs), _, nw, z, rv.cns fun r hr hm => anyM_mem hr hm, e, fun v' H2 zn => q v' H2 (s1.trans zn.1) (zn_rv (eo.up s1) s1 zn)⟩
      rcases biV_ty hu with ⟨n, rfl⟩ | ⟨n, rfl⟩
      · exact mkE ((pe_callB (bi_ok ok.calm ok.hu hu) (gl_of h1).1 hm b1 sa b2 b3 (hst _ _ h3).1 ((hst _ _ h3).2 _)).imp i) fun _ => rfl
      · exact mkE ((pe_callTy (bi_ok ok.calm ok.hu hu) (gl_of h1).1 hm b1 sa b2 b3 (hst _ _ h3).1 ((hst _ _ h3).2 _)).imp i) fun _ => rfl
    · cases h
  | .isi a T, X, E, e, ok, h => by
    simp only [okE] at h
    split at h
    · simp only [Bool.and_eq_true, decide_eq_true_eq] at h
      obtain ⟨⟨⟨⟨⟨rfl, h1⟩, rfl⟩, h2⟩, h3⟩, h4⟩ := h
      have h3' : (decide (T = "str") || decide (T = "bool") || decide (T = "int") || decide (T = "list") || decide (T = "tuple")) = true := by simpa using h3
      obtain ⟨b1, b2, b3, b4⟩ := boot_ty h3'
      refine mkE ((pe_callB call_isi (gl_of h1).1 (ok.blt _ (by decide)) (by decide +kernel) (pa_cons (sE a _ ok h4).1 (pa_cons (pe_bltn (v := .ty (tyS T)) (gl_of h2).1 (ok.blt _ b4) b1 rfl b2 b3) pa_nil (by rfl)) (star_cons h4 _ _)) (by decide) (by decide) (star_cons h4 _ _) (by rfl)).imp fun σ H Q ⟨H0, M0, M, env, eo, q⟩ => by
        simp only [evE] at q
        refine ⟨H0, M0, M, env, eo, (Rp.bind q).imp fun r _ q v H1 s1 rv => ?_⟩
        obtain ⟨b', e, q⟩ := Rp.liftB q
        exact ⟨v, .ty (tyS T), .type (tyN r.d), .type (tyS T), b', rfl, .ty _, ty_cn rv.cn, isi_kit e, q _ H1 s1 (.bl b')⟩) fun _ => rfl
    · cases h
  | .mt o f ms, X, E, e, ok, h => by
    simp only [okE] at h
    split at h
    · simp only [Bool.and_eq_true, Bool.or_eq_true, decide_eq_true_eq] at h
      obtain ⟨⟨⟨⟨⟨rfl, h1⟩, h2⟩, h3⟩, h4⟩, h5⟩ := h
      have sa := (sEs ms _ ok h5).1
      have hst : ∀ x es, okEs X.N X.env.scope ms (x :: es) = true → starEach (x :: es) X.env = (false, eval x X.env) :: starEach es X.env ∧ (starEach es X.env).any (·.1) = false := fun x es hh => by
        cases ms with
        | nil => simp [okEs] at hh
        | cons m ms' =>
          simp only [okEs, Bool.and_eq_true] at hh
          exact ⟨star_cons hh.1 es _, star_none hh.2⟩
      have hat : ∀ x : Expr, okE X.N X.env.scope o x = true → attributeBase x f X.env (eval x X.env) = eval x X.env := fun x hx => by
        unfold attributeBase
        split
        · exfalso
          cases o <;> simp [okE] at hx
        · rfl
      have hfew : ∀ (x : Expr) (es : List Expr) (cp : Pos), okEs X.N X.env.scope ms (x :: es) = true → es.length < 20 → ((backTo cp (starEach (x :: es) X.env)).all (fun x => !x.1) && (backToKw cp (keywordEach [] X.env)).all (fun x => x.1.isSome)
          && decide ((x :: es).length + ([] : List Keyword).length + (if ([] : List Keyword).isEmpty then 0 else 1) < 30)) = true := fun x es cp hh hl => by
        rw [back_all cp _ (by rw [(hst x es hh).1, List.any_cons, (hst x es hh).2]; rfl)]
        have : decide ((x :: es).length + ([] : List Keyword).length + (if ([] : List Keyword).isEmpty then 0 else 1) < 30) = true := by
          apply decide_eq_true
          simp
          omega
        rw [this]
        rfl
      rcases h1 with (h1 | h1) | h1 <;> subst h1
      · refine mkE ((pe_bm PySem.F.plainAttrs_str PySem.F.slot_str_join PySem.F.type_str_join mt_ok_join (sE o _ ok h4).1 sa (hat _ h4) (hfew _ _ _ h5 h3) h2 (hst _ _ h5).1 (back_any _ _ (hst _ _ h5).2)).imp fun σ H Q ⟨H0, M0, M, env, eo, q⟩ => by
          simp only [evE] at q
          refine ⟨H0, M0, M, env, eo, (Rp.bind q).imp fun r _ q v H1 s1 rv => ?_⟩
          split at q
          · rename_i hr
            obtain ⟨z, hz⟩ : ∃ z, r.d = .str z := by
              cases hd : r.d <;> rw [hd] at hr <;> simp [isStr] at hr
              exact ⟨_, rfl⟩
            have ev : v = .str z := by
              have := rv.cn
              rw [hz] at this
              cases this
              rfl
            refine ⟨by rw [ev]; rfl, H0, M0, M, env, eo.up s1, ((Rp.bind q).same s1).imp fun rs _ q vs H2 s2 rv2 => ?_⟩
            obtain ⟨nw, z', e, q⟩ := Rp.lift q
            have e : m_join r.d (rs.map Rv.d) = some (nw, z') := e
            have e2 := sc_join e
            exact ⟨Lm H0 M true, r.d, _, nw, z', (sm_cn s2 rv.cn).wk fun _ q => q.le fun _ => rfl, rv2.cns (m := true) fun _ _ _ => rfl, e, fun v' t _ => q v' H2 (s1.trans s2) (zn_rv (eo.up (s1.trans s2)) (s1.trans s2) (by rw [e2.1]; exact zn_dt (t.cn.dt_sc e2.2)))⟩
          · exact q.elim) fun _ => rfl
      · refine mkE ((pe_bm PySem.F.plainAttrs_str PySem.F.slot_str_startswith PySem.F.type_str_startswith mt_ok_starts (sE o _ ok h4).1 sa (hat _ h4) (hfew _ _ _ h5 h3) h2 (hst _ _ h5).1 (back_any _ _ (hst _ _ h5).2)).imp fun σ H Q ⟨H0, M0, M, env, eo, q⟩ => by
          simp only [evE] at q
          refine ⟨H0, M0, M, env, eo, (Rp.bind q).imp fun r _ q v H1 s1 rv => ?_⟩
          split at q
          · rename_i hr
            obtain ⟨z, hz⟩ : ∃ z, r.d = .str z := by
              cases hd : r.d <;> rw [hd] at hr <;> simp [isStr] at hr
              exact ⟨_, rfl⟩
            have ev : v = .str z := by
              have := rv.cn
              rw [hz] at this
              cases this
              rfl
            refine ⟨by rw [ev]; rfl, H0, M0, M, env, eo.up s1, ((Rp.bind q).same s1).imp fun rs _ q vs H2 s2 rv2 => ?_⟩
            obtain ⟨nw, z', e, q⟩ := Rp.lift q
            have e : m_startswith r.d (rs.map Rv.d) = some (nw, z') := e
            have e2 := sc_starts e
            exact ⟨Lm H0 M true, r.d, _, nw, z', (sm_cn s2 rv.cn).wk fun _ q => q.le fun _ => rfl, rv2.cns (m := true) fun _ _ _ => rfl, e, fun v' t _ => q v' H2 (s1.trans s2) (zn_rv (eo.up (s1.trans s2)) (s1.trans s2) (by rw [e2.1]; exact zn_dt (t.cn.dt_sc e2.2)))⟩
          · exact q.elim) fun _ => rfl
      · refine mkE ((pe_bm PySem.F.plainAttrs_str PySem.F.slot_str_count PySem.F.type_str_count mt_ok_count (sE o _ ok h4).1 sa (hat _ h4) (hfew _ _ _ h5 h3) h2 (hst _ _ h5).1 (back_any _ _ (hst _ _ h5).2)).imp fun σ H Q ⟨H0, M0, M, env, eo, q⟩ => by
          simp only [evE] at q
          refine ⟨H0, M0, M, env, eo, (Rp.bind q).imp fun r _ q v H1 s1 rv => ?_⟩
          split at q
          · rename_i hr
            obtain ⟨z, hz⟩ : ∃ z, r.d = .str z := by
              cases hd : r.d <;> rw [hd] at hr <;> simp [isStr] at hr
              exact ⟨_, rfl⟩
            have ev : v = .str z := by
              have := rv.cn
              rw [hz] at this
              cases this
              rfl
            refine ⟨by rw [ev]; rfl, H0, M0, M, env, eo.up s1, ((Rp.bind q).same s1).imp fun rs _ q vs H2 s2 rv2 => ?_⟩
            obtain ⟨nw, z', e, q⟩ := Rp.lift q
            have e : m_count r.d (rs.map Rv.d) = some (nw, z') := e
            have e2 := sc_count e
            exact ⟨Lm H0 M true, r.d, _, nw, z', (sm_cn s2 rv.cn).wk fun _ q => q.le fun _ => rfl, rv2.cns (m := true) fun _ _ _ => rfl, e, fun v' t _ => q v' H2 (s1.trans s2) (zn_rv (eo.up (s1.trans s2)) (s1.trans s2) (by rw [e2.1]; exact zn_dt (t.cn.dt_sc e2.2)))⟩
          · exact q.elim) fun _ => rfl
    · cases h
  | .call f ms, X, E, e, ok, h => by
    simp only [okE] at h
    split at h
    · simp only [Bool.and_eq_true, decide_eq_true_eq] at h
      obtain ⟨⟨rfl, h1⟩, h3⟩ := h
      have sa := (sEs ms _ ok h3).1
      have hst : ∀ x es, okEs X.N X.env.scope ms (x :: es) = true → starEach (x :: es) X.env = (false, eval x X.env) :: starEach es X.env ∧ ∀ pos, (backTo pos (starEach es X.env)).any (·.1) = false := fun x es hh => by
        cases ms with
        | nil => simp [okEs] at hh
        | cons m ms' =>
          simp only [okEs, Bool.and_eq_true] at hh
          exact ⟨star_cons hh.1 es _, fun pos => back_any pos _ (star_none hh.2)⟩
      cases hΓ : Γ f with
      | none =>
        refine ⟨⟨fun pins s σ H Q I ⟨H0, M0, M, env, eo, q⟩ => ?_⟩, ⟨fun pins s σ H Q I ⟨H0, M0, M, env, eo, q⟩ => ?_⟩⟩
        · simp only [evE, hΓ] at q
          exact q.elim
        · simp only [evE, hΓ] at q
          exact q.elim
      | some p =>
        obtain ⟨n, g⟩ := p
        obtain ⟨fa, fd, ps, F, mf, kf, bf⟩ := ok.fns f n g hΓ
        have cp : ∀ (cls : Value) (d : Option Addr) (σ : L2.St) (H : Hp), E cls d H → E cls d H := fun _ _ _ _ q => q
        refine mkE ((pe_call F (ok.room.mono (by omega)) (gl_of h1).1 mf kf bf .nil (passes_call ok.tk cp) sa (gl_of h1).2 (hst _ _ h3).1 ((hst _ _ h3).2 _)).imp fun σ H Q ⟨H0, M0, M, env, eo, q⟩ => by
          simp only [evE, hΓ] at q
          refine ⟨H0, M0, M, env, eo, (Rp.bind q).imp fun rs _ q vs H1 s1 rv => ?_⟩
          split at q
          · rename_i hn
            obtain ⟨Mc, m1, m2, ds⟩ := args_ok (eo.up s1) rv
            rw [List.append_nil]
            refine ⟨by rw [rv.length]; exact hn, Mc, _, fun a ha => (eo.up s1).dom a (m1 a ha), ds, ((Rp.bind q).same s1).imp fun r _ q => ?_⟩
            cases e : ans (rs.any isBo) r with
            | bad => rw [e] at q; exact q.elim
            | err x => exact absurd e (ans_ne _ _ _)
            | ok r' =>
              rw [e] at q
              exact .mk (fun v H2 s2 rv2 => q v H2 (s1.trans s2) (rv2.ans (eo.up s1) s1 m2 e)) fun mask news z => by subst z; simp [ans] at e
          · exact q.elim) fun _ => rfl
    · cases h
  | .rep a y z, X, E, e, ok, h => by
    simp [okE] at h
  | .dgt i k d, X, E, e, ok, h => by
    simp only [okE] at h
    split at h
    · rename_i x p0 m ap y z cp
      simp only [Bool.and_eq_true, decide_eq_true_eq] at h
      obtain ⟨⟨⟨⟨h1, rfl⟩, h2⟩, h3⟩, h4⟩ := h
      have hm : M2 X (.Name x p0) "get" ap y z cp := ⟨rfl, by rw [star_cons h3, star_cons h4]; rfl, h2, by rw [star_cons h3, star_cons h4]; rfl⟩
      have hu1 : X.A.units + 1 < cLine := by have := ok.hu; omega
      refine mkE ((pe_dget2 hu1 (pe_v h1) (sE k y ok h3).1 (sE d z ok h4).1 hm).imp fun σ H Q ⟨H0, M0, M, env, eo, q⟩ => by
        simp only [evE] at q
        have key : ∀ (x : Rv) (vx : V), σ[i]? = some (some vx) → Cn H (Lm H0 M x.m) vx x.d → Rp E X.mg H (match x.d with
            | .dict es => (evE Γ env k).bind fun y => (evE Γ env d).bind fun z => match dget es y.d with
              | some (some v) => .ok (mk x.m false v)
              | some none => if isBo z then .bad else .ok z
              | none => .bad
            | _ => .bad) (fun r => ∀ v H', Same H H' → RvOk H0 M H H' v r → Q v H') → tDGet2 (tVar i) (tE Γ E X.mg k) (tE Γ E X.mg d) σ H Q := fun x vx hv c q => by
          refine ⟨vx, hv, ?_⟩
          split at q
          · rename_i es hd
            rw [hd] at c
            obtain ⟨a, rfl, isd⟩ : ∃ a, vx = .ref a ∧ IsD H a := by
              cases c with
              | dK r _ _ => exact ⟨_, rfl, .inl ⟨_, .inl r⟩⟩
              | dT r _ _ => exact ⟨_, rfl, .inr ⟨_, .inl r⟩⟩
            refine ⟨a, rfl, isd, H0, M0, M, env, eo, (Rp.bind q).imp fun ry _ q v1 H1 s1 rv1 => ⟨H0, M0, M, env, eo.up s1, ((Rp.bind q).same s1).imp fun rz _ q v2 H2 s2 rv2 => ?_⟩⟩
            have s12 := s1.trans s2
            cases e : dget es ry.d with
            | none => rw [e] at q; exact q.elim
            | some o =>
              rw [e] at q
              obtain ⟨r, g, gt⟩ := dget_ok (sm_cn s12 c) (sm_cn s2 rv1.cn) e
              refine ⟨r, g, ?_⟩
              cases o with
              | some d' =>
                obtain ⟨u, rfl, t⟩ := gt
                exact q u H2 s12 (zn_rv (Hs := H) (nw := false) (eo.up s12) s12 (zn_dt t))
              | none =>
                have gt : r = none := gt
                subst gt
                dsimp only at q
                split at q
                · exact q.elim
                · exact q v2 H2 s12 (rv2.back s1)
          · exact q.elim
        unfold getSl at q
        split at q
        · rename_i m d' e'
          obtain ⟨v, q1, t⟩ := eo.sl i _ e'
          exact key (.fr m d') v q1 t.cn q
        · rename_i m d' e'
          obtain ⟨a, q1, _, _, t⟩ := eo.sl i _ e'
          exact key (.bo m d') _ q1 t.cn q
        · rename_i v m d' e'
          obtain ⟨q1, t⟩ := eo.sl i _ e'
          exact key (.fr m d') v q1 t.cn q
        · rename_i a m d' e'
          obtain ⟨q1, _, _, t⟩ := eo.sl i _ e'
          exact key (.bo m d') _ q1 t.cn q
        · exact q.elim) fun _ => rfl
    · cases h
  | .dix a k, X, E, e, ok, h => by
    simp only [okE] at h
    split at h
    · simp only [Bool.and_eq_true] at h
      obtain ⟨h1, h2⟩ := h
      have hu1 : X.A.units + 1 < cLine := by have := ok.hu; omega
      refine mkE ((pe_dget hu1 (sE a _ ok h1).1 (sE k _ ok h2).1 (plain_ix h2)).imp fun σ H Q ⟨H0, M0, M, env, eo, q⟩ => by
        simp only [evE] at q
        refine ⟨H0, M0, M, env, eo, (Rp.bind q).imp fun r _ q v H1 s1 rv => ?_⟩
        split at q
        · rename_i es hd
          refine ⟨H0, M0, M, env, eo.up s1, ((Rp.bind q).same s1).imp fun r2 _ q u H2 s2 rv2 => ?_⟩
          cases e : dget es r2.d with
          | none => rw [e] at q; exact q.elim
          | some o =>
            rw [e] at q
            have c := sm_cn s2 rv.cn
            rw [hd] at c
            obtain ⟨a', rfl⟩ : ∃ a', v = .ref a' := by
              cases c with
              | dK r _ _ => exact ⟨_, rfl⟩
              | dT r _ _ => exact ⟨_, rfl⟩
            obtain ⟨r', g, gt⟩ := dget_ok c rv2.cn e
            cases o with
            | some d' =>
              obtain ⟨w, rfl, t⟩ := gt
              exact ⟨a', w, rfl, g, q w H2 (s1.trans s2) (zn_rv (Hs := H) (nw := false) (eo.up (s1.trans s2)) (s1.trans s2) (zn_dt t))⟩
            | none => exact q.elim
        · exact q.elim) fun _ => rfl
    · cases h
  | .sset a, X, E, e, ok, h => by
    simp only [okE] at h
    split at h
    · simp only [Bool.and_eq_true, decide_eq_true_eq] at h
      obtain ⟨⟨⟨⟨rfl, h1⟩, rfl⟩, h2⟩, h3⟩ := h
      refine mkE ((pe_sset ok.calm (gl_of h1).1 (ok.blt _ (by decide)) (gl_of h2).1 (ok.blt _ (by decide)) (sE a _ ok h3).1 (star_cons h3 _ _)).imp fun σ H Q ⟨H0, M0, M, env, eo, q⟩ => by
        simp only [evE] at q
        refine ⟨H0, M0, M, env, eo, (Rp.bind q).imp fun r _ q v H1 s1 rv => ?_⟩
        cases e : semSet r.d with
        | none => rw [e] at q; exact q.elim
        | some d =>
          rw [e] at q
          obtain ⟨a', ns, rfl, hl, h63, rfl⟩ := semSet_ok rv.cn e
          refine ⟨a', ns, rfl, hl, h63, fun ms p hs hm hp => ?_⟩
          have e1 := once_uniq hs hm
          subst e1
          exact q _ _ (s1.trans (same_new hp)) ⟨p, rfl, s1.free hp, ((eo.up s1).fresh hp).1, ((eo.up s1).fresh hp).2, .lst upd_same (ints_dts _)⟩
        ) fun _ => rfl
    · cases h
  | .lix a b, X, E, e, ok, h => by
    simp only [okE] at h
    split at h
    · rename_i x m ap y cp
      simp only [Bool.and_eq_true, decide_eq_true_eq] at h
      obtain ⟨⟨⟨rfl, h2⟩, h3⟩, h4⟩ := h
      have hat : attributeBase x "index" X.env (eval x X.env) = eval x X.env := by
        unfold attributeBase
        split
        · exfalso
          cases a <;> simp [okE] at h3
        · rfl
      refine mkE ((pe_bm PySem.F.plainAttrs_list PySem.F.slot_list_index PySem.F.type_list_index (mt_indexB ok.hu) (sE a x ok h3).1 (pa_cons (sE b y ok h4).1 pa_nil (star_cons h4 _ _)) hat (by rw [star_cons h4]; rfl) h2 (star_cons h4 _ _) rfl).imp fun σ H Q ⟨H0, M0, M, env, eo, q⟩ => by
        simp only [evE] at q
        refine ⟨H0, M0, M, env, eo, (Rp.bind q).imp fun r _ q v H1 s1 rv => ?_⟩
        split at q
        · rename_i ds hr
          have c := rv.cn
          rw [hr] at c
          cases c with
          | @lst l xs _ r' s' =>
            refine ⟨.inl ⟨rfl, xs, .inl r'⟩, H0, M0, M, env, eo.up s1, ((Rp.bind q).same s1).imp fun r2 _ q v2 H2 s2 rv2 => ?_⟩
            split at q
            · rename_i j hj
              unfold semLix at hj
              simp only at hj
              split at hj
              · rename_i hz
                cases hf : ds.findIdx? fun z => PyData.eqv z r2.d with
                | none => rw [hf] at hj; cases hj
                | some jn =>
                  rw [hf] at hj
                  cases hj
                  obtain ⟨hlt, h5, h6⟩ := List.findIdx?_eq_some_iff_getElem.mp hf
                  have sx := sm_dts s2 s'
                  simp only [Bool.or_eq_true, Bool.and_eq_true] at hz
                  rcases hz.symm with hz | hz
                  · refine .inr ⟨l, v2, r2.d, ds, jn, ds[jn], rfl, rfl, Cn.dp (Cn.lst (sm_rd s2 r') sx) (noD_shp hz.2), rv2.cn.dp (noD_shp hz.1), hz.2, hz.1, List.getElem?_eq_getElem hlt, h5, fun n z' hn ez => ?_, q _ H2 (s1.trans s2) (.int _)⟩
                    have hn2 : n < ds.length := by omega
                    rw [List.getElem?_eq_getElem hn2] at ez
                    cases ez
                    simpa using h6 n hn
                  have dy : Dt H2 (Lm H0 M r2.m) v2 r2.d := rv2.cn.dt_sc hz.1
                  obtain ⟨zv, e1, t1⟩ := sx.get (List.getElem?_eq_getElem hlt)
                  have sc1 : ∀ z, z ∈ ds → sc z = true := List.all_eq_true.mp hz.2
                  refine .inl ⟨l, xs, v2, jn, zv, rfl, rfl, .inl (sm_rd s2 r'), flat_sc dy hz.1, flats_sc sx hz.2, e1, ?_, fun n z' hn ez => ?_, q _ H2 (s1.trans s2) (.int _)⟩
                  · rw [eqV_sc t1 dy (sc1 _ (List.getElem_mem hlt)) hz.1]
                    exact h5
                  · obtain ⟨d', e2, t2⟩ := sx.getV ez
                    have hn2 : n < ds.length := by omega
                    rw [List.getElem?_eq_getElem hn2] at e2
                    cases e2
                    rw [eqV_sc t2 dy (sc1 _ (List.getElem_mem hn2)) hz.1]
                    simpa using h6 n hn
              · cases hj
            · exact q.elim
        · exact q.elim) fun _ => rfl
    · cases h
  | .srk a f, X, E, e, ok, h => by
    simp only [okE] at h
    split at h
    · simp only [Bool.and_eq_true, decide_eq_true_eq] at h
      obtain ⟨⟨⟨⟨⟨rfl, h1⟩, rfl⟩, rfl⟩, h2⟩, h3⟩ := h
      cases hΓ : Γ f with
      | none =>
        refine ⟨⟨fun pins s σ H Q I ⟨H0, M0, M, env, eo, q⟩ => ?_⟩, ⟨fun pins s σ H Q I ⟨H0, M0, M, env, eo, q⟩ => ?_⟩⟩
        · simp only [evE, hΓ] at q
          exact q.elim
        · simp only [evE, hΓ] at q
          exact q.elim
      | some p =>
        obtain ⟨n, g⟩ := p
        obtain ⟨fa, fd, ps, F, mf, kf, bf⟩ := ok.fns f n g hΓ
        refine mkE ((pe_srk F ok.room bf (gl_of h1).1 (ok.blt _ (by decide)) (gl_of h2).1 (gl_of h2).2 mf (sE a _ ok h3).1 (star_cons h3 _ _)).imp fun σ H Q ⟨H0, M0, M, env, eo, q⟩ => by
          simp only [evE, hΓ] at q
          split at q
          · rename_i hn
            subst hn
            refine ⟨H0, M0, M, env, eo, (Rp.bind q).imp fun r _ q v H1 s1 rv => ?_⟩
            split at q
            · rename_i ds hd
              have c := rv.cn
              rw [hd] at c
              cases c with
              | @lst l xs _ r' s' =>
                cases ek : keysR g ds with
                | bad => rw [ek] at q; exact q.elim
                | err x => exact absurd ek (keysR_ne _ _ _)
                | ok ks =>
                  rw [ek] at q
                  have q := Rp.ok q
                  exact srk_data (eo.up s1) s1 r' s' ek q
            · exact q.elim
          · exact q.elim) fun _ => rfl
    · cases h
  | .rvl a, X, E, e, ok, h => by
    simp only [okE] at h
    split at h
    · simp only [Bool.and_eq_true, decide_eq_true_eq] at h
      obtain ⟨⟨⟨⟨rfl, h1⟩, rfl⟩, h2⟩, h3⟩ := h
      refine mkE ((pe_lstRev ok.calm (gl_of h1).1 (ok.blt _ (by decide)) (gl_of h2).1 (ok.blt _ (by decide)) (sE a _ ok h3).1 (star_cons h3 _ _) (by rfl)).imp fun σ H Q ⟨H0, M0, M, env, eo, q⟩ => by
        simp only [evE] at q
        refine ⟨H0, M0, M, env, eo, (Rp.bind q).imp fun r _ q v H1 s1 rv => ?_⟩
        split at q
        · rename_i ds hd
          have q := Rp.ok q
          have c := rv.cn
          rw [hd] at c
          cases c with
          | @lst a xs _ r' s' =>
            refine ⟨a, xs, rfl, .inl r', fun p hp => ?_⟩
            exact q _ _ (s1.trans (same_new hp)) (zn_rv (m := r.m) (eo.up s1) s1 (zn_new hp s'.reverse))
        · exact q.elim) fun _ => rfl
    · cases h
  | .lr a b, X, E, e, ok, h => by
    simp only [okE] at h
    split at h
    · simp only [Bool.and_eq_true, decide_eq_true_eq] at h
      obtain ⟨⟨⟨⟨⟨rfl, h1⟩, rfl⟩, h2⟩, h3⟩, h4⟩ := h
      cases b with
      | so _ => simp [okO] at h4
      | no =>
      cases a with
      | no => simp [okO] at h3
      | so a =>
      have h3 : okE X.N X.env.scope a _ = true := h3
      refine mkE ((pe_listRg ok.calm (gl_of h1).1 (ok.blt _ (by decide)) (prg_1 (gl_of h2).1 (ok.blt _ (by decide)) (sE a _ ok h3).1 (star_cons h3 _ _)) (by rfl)).imp fun σ H Q ⟨H0, M0, M, env, eo, q⟩ => by
        simp only [evE, evO] at q
        refine ⟨H0, M0, M, env, eo, (Rp.bind (Rp.bind q)).imp fun r _ q v H1 s1 rv => ?_⟩
        split at q
        · rename_i n hn
          replace q := Rp.ok q
          dsimp only [R.bind] at q
          split at q
          · rename_i hz
            simp only [Bool.and_eq_true, decide_eq_true_eq, sm] at hz
            refine ⟨n, sc_sc rv hn, ⟨by decide, by decide, hz.1.1, hz.1.2, by simpa using hz.2⟩, fun p hp => ?_⟩
            refine q _ _ (s1.trans (same_new hp)) ⟨p, rfl, s1.free hp, ((eo.up s1).fresh hp).1, ((eo.up s1).fresh hp).2, .lst upd_same ?_⟩
            exact rg_dts 0 n _ (by simp)
          · exact q.elim
        · exact q.elim) fun _ => rfl
    · simp only [Bool.and_eq_true, decide_eq_true_eq] at h
      obtain ⟨⟨⟨⟨⟨rfl, h1⟩, rfl⟩, h2⟩, h3⟩, h4⟩ := h
      cases b with
      | no => simp [okO] at h4
      | so b =>
      cases a with
      | no => simp [okO] at h3
      | so a =>
      have h3 : okE X.N X.env.scope a _ = true := h3
      have h4 : okE X.N X.env.scope b _ = true := h4
      refine mkE ((pe_listRg ok.calm (gl_of h1).1 (ok.blt _ (by decide)) (prg_2 (gl_of h2).1 (ok.blt _ (by decide)) (sE a _ ok h3).1 (sE b _ ok h4).1 (star_cons h3 _ _) (star_cons h4 _ _) (by rw [star_cons h4 _ _]; rfl)) (by rfl)).imp fun σ H Q ⟨H0, M0, M, env, eo, q⟩ => by
        simp only [evE, evO] at q
        refine ⟨H0, M0, M, env, eo, (Rp.bind (Rp.bind q)).imp fun r _ q v H1 s1 rv => ?_⟩
        split at q
        · rename_i i hi
          replace q := Rp.ok q
          dsimp only [R.bind] at q
          refine ⟨H0, M0, M, env, eo.up s1, ((Rp.bind (Rp.bind q)).same s1).imp fun r2 _ q u H2 s2 rv2 => ?_⟩
          split at q
          · rename_i j hj
            replace q := Rp.ok q
            dsimp only [R.bind] at q
            split at q
            · rename_i hz
              simp only [Bool.and_eq_true, decide_eq_true_eq, sm] at hz
              refine ⟨i, j, sc_sc rv hi, sc_sc rv2 hj, ⟨hz.1.1.1, hz.1.1.2, hz.1.2.1, hz.1.2.2, hz.2⟩, fun p hp => ?_⟩
              have s12 := s1.trans s2
              refine q _ _ (s12.trans (same_new hp)) ⟨p, rfl, s12.free hp, ((eo.up s12).fresh hp).1, ((eo.up s12).fresh hp).2, .lst upd_same ?_⟩
              exact rg_dts i j _ rfl
            · exact q.elim
          · exact q.elim
        · exact q.elim) fun _ => rfl
    · cases h
  | .lc g it c elt, X, E, e, ok, h => by
    simp only [okE] at h
    split at h
    · rename_i x tg iter ifs scope pos
      simp only [Bool.and_eq_true] at h
      obtain ⟨⟨⟨⟨h1, h2⟩, h3⟩, h4⟩, h5⟩ := h
      refine mkE ?_ fun _ => rfl
      have hi := sI it tg iter ok h3
      have hown : (ownOf X.N g).map (·.2) = idx g := by
        unfold ownOf
        rw [List.map_map]
        exact List.map_id'' (fun _ => rfl) _
      have P := pe_lc (te := tE Γ (fun _ _ _ => False) X.mg elt) (tt := tC Γ (fun _ _ _ => False) X.mg c) (g := gOf X g) (pos := pos) ok.calm ok.nd hi (blkOk_by h1)
        (fun s H C cl fp => g_ok (X := X.blk s H scope (compEnvC scope cl C X.env) fp) ok.nd ok.calm fnIn_blk h2)
        (fun s H C cl fp => sC c ifs (ok_blk ok) h4) (fun s H C cl fp => (sE elt x (ok_blk ok) h5).1) (no_setI h3)
      rw [hown] at P
      exact P.imp lc_imp
    · cases h
theorem sEs : ∀ (ms : MEs) {X : Cx} {E : XK} (es : List Expr), Ok X Γ E k → okEs X.N X.env.scope ms es = true → PA X es (tEs Γ E X.mg ms) ∧
    (∀ con, es ≠ [] → ∀ pos, PE X (.BoolOp (bOp con) es pos) (tBv Γ E X.mg con ms) ∧ PW X (.BoolOp (bOp con) es pos) (tBt Γ E X.mg con ms))
  | .nil, X, E, es, ok, h => by
    simp only [okEs] at h
    split at h
    · exact ⟨pa_nil.imp fun σ H Q ⟨H0, M0, M, env, eo, q⟩ => q [] H (Same.refl _) .nil, fun _ z => absurd rfl z⟩
    · cases h
  | .cons m ms, X, E, es, ok, h => by
    simp only [okEs] at h
    split at h
    · rename_i e r
      simp only [Bool.and_eq_true] at h
      obtain ⟨h1, h2⟩ := h
      obtain ⟨p1, p2⟩ := sE m e ok h1
      obtain ⟨q1, q2⟩ := sEs ms r ok h2
      refine ⟨(pa_cons p1 q1 (star_cons h1 _ _)).imp fun σ H Q ⟨H0, M0, M, env, eo, q⟩ => ?_, fun con _ pos => ?_⟩
      · simp only [evEs] at q
        exact ⟨H0, M0, M, env, eo, (Rp.bind q).imp fun x _ q v H1 s1 rv => ⟨H0, M0, M, env, eo.up s1, ((Rp.bind q).same s1).imp fun xs _ q vs H2 s2 rvs => q _ H2 (s1.trans s2) (.cons (rv.same s2) (rvs.back s1))⟩⟩
      · cases r with
        | nil =>
          have hm := okEs_nil h2
          subst hm
          have i : ∀ (σ : L2.St) (H : Hp) (Q : Bool → Hp → Prop), tBt Γ E X.mg con (.cons m .nil) σ H Q → tT Γ E X.mg m σ H Q := fun σ H Q ⟨H0, M0, M, env, eo, q⟩ => by
            simp only [evB] at q
            exact ⟨H0, M0, M, env, eo, q⟩
          refine ⟨(pe_one p1).imp fun σ H Q ⟨H0, M0, M, env, eo, q⟩ => ?_, ?_⟩
          · simp only [evB] at q
            refine ⟨H0, M0, M, env, eo, (Rp.bind q).imp fun r _ q v H1 s1 rv => ?_⟩
            obtain ⟨b', rfl, q⟩ := rp_truth q rv
            exact q H1 s1
          · cases con with
            | true => exact (pw_and1 p2).imp i
            | false => exact (pw_or1 p2).imp i
        | cons y ys =>
          obtain ⟨b1, b2⟩ := q2 con (by simp) pos
          cases ms with
          | nil => simp [okEs] at h2
          | cons m2 ms2 =>
          have iv : ∀ (σ : L2.St) (H : Hp) (Q : VK), tBv Γ E X.mg con (.cons m (.cons m2 ms2)) σ H Q → tE Γ E X.mg m σ H fun x H1 => ∃ c, x = .bl c ∧ if c = con then tBv Γ E X.mg con (.cons m2 ms2) σ H1 Q else Q (.bl c) H1 := fun σ H Q ⟨H0, M0, M, env, eo, q⟩ => by
            simp only [evB] at q
            refine ⟨H0, M0, M, env, eo, (Rp.bind (Rp.bind q)).imp fun r _ q v H1 s1 rv => ?_⟩
            obtain ⟨c, rfl, q⟩ := rp_truth q rv
            refine ⟨c, rfl, ?_⟩
            by_cases hc : c = con
            · rw [if_pos hc] at q ⊢
              exact ⟨H0, M0, M, env, eo.up s1, (Rp.same q s1).imp fun b _ q H2 s2 => q H2 (s1.trans s2)⟩
            · rw [if_neg hc] at q ⊢
              exact q H1 s1
          have it : ∀ (σ : L2.St) (H : Hp) (Q : Bool → Hp → Prop), tBt Γ E X.mg con (.cons m (.cons m2 ms2)) σ H Q → tT Γ E X.mg m σ H fun c H1 => if c = con then tBt Γ E X.mg con (.cons m2 ms2) σ H1 Q else Q c H1 := fun σ H Q ⟨H0, M0, M, env, eo, q⟩ => by
            simp only [evB] at q
            refine ⟨H0, M0, M, env, eo, (Rp.bind q).imp fun c _ q H1 s1 => ?_⟩
            by_cases hc : c = con
            · rw [if_pos hc] at q ⊢
              exact ⟨H0, M0, M, env, eo.up s1, (Rp.same q s1).imp fun b _ q H2 s2 => q H2 (s1.trans s2)⟩
            · rw [if_neg hc] at q ⊢
              exact q H1 s1
          cases con with
          | true =>
            refine ⟨(pe_and p1 b1).imp fun σ H Q q => ?_, (pw_and p2 b2).imp fun σ H Q q => ?_⟩
            · obtain ⟨H0, M0, M, env, eo, q⟩ := iv σ H Q q
              refine ⟨H0, M0, M, env, eo, q.imp fun r _ q v H1 s1 rv => ?_⟩
              obtain ⟨c, rfl, q⟩ := q v H1 s1 rv
              refine ⟨c, rfl, ?_⟩
              cases c with
              | true => exact q
              | false => exact q
            · obtain ⟨H0, M0, M, env, eo, q⟩ := it σ H Q q
              refine ⟨H0, M0, M, env, eo, q.imp fun c _ q H1 s1 => ?_⟩
              have q := q H1 s1
              cases c with
              | true => exact q
              | false => exact q
          | false =>
            refine ⟨(pe_or p1 b1).imp fun σ H Q q => ?_, (pw_or p2 b2).imp fun σ H Q q => ?_⟩
            · obtain ⟨H0, M0, M, env, eo, q⟩ := iv σ H Q q
              refine ⟨H0, M0, M, env, eo, q.imp fun r _ q v H1 s1 rv => ?_⟩
              obtain ⟨c, rfl, q⟩ := q v H1 s1 rv
              refine ⟨c, rfl, ?_⟩
              cases c with
              | true => exact q
              | false => exact q
            · obtain ⟨H0, M0, M, env, eo, q⟩ := it σ H Q q
              refine ⟨H0, M0, M, env, eo, q.imp fun c _ q H1 s1 => ?_⟩
              have q := q H1 s1
              cases c with
              | true => exact q
              | false => exact q
    · cases h
theorem sO : ∀ (m : MO) {X : Cx} {E : XK} (o : Option Expr), Ok X Γ E k → okO X.N X.env.scope m o = true → PO X o (tO Γ E X.mg m)
  | .no, X, E, o, ok, h => by
    simp only [okO] at h
    split at h
    · exact po_none.imp fun σ H Q ⟨H0, M0, M, env, eo, q⟩ => q H (Same.refl _)
    · cases h
  | .so m, X, E, o, ok, h => by
    simp only [okO] at h
    split at h
    · refine (po_some (sE m _ ok h).1).imp fun σ H Q ⟨H0, M0, M, env, eo, q⟩ => ?_
      simp only [evO] at q
      refine ⟨H0, M0, M, env, eo, (Rp.bind q).imp fun r _ q v H1 s1 rv => ?_⟩
      split at q
      · rename_i i hi
        exact ⟨i, sc_sc rv hi, q H1 s1⟩
      · exact q.elim
    · cases h
theorem sC : ∀ (m : MO) {X : Cx} {E : XK} (o : List Expr), Ok X Γ E k → okC X.N X.env.scope m o = true → PTs X o (tC Γ E X.mg m)
  | .no, X, E, o, ok, h => by
    simp only [okC] at h
    split at h
    · exact ⟨fun pins s σ H Q I ⟨H0, M0, M, env, eo, q⟩ => pts_nil.run pins s σ H Q I (q H (Same.refl _))⟩
    · cases h
  | .so m, X, E, o, ok, h => by
    simp only [okC] at h
    split at h
    · refine ⟨fun pins s σ H Q I ⟨H0, M0, M, env, eo, q⟩ => (pts_one (sE m _ ok h).2).run pins s σ H Q I ⟨H0, M0, M, env, eo, ?_⟩⟩
      simp only [evC] at q
      exact q
    · cases h
theorem sI : ∀ (it : MI) {X : Cx} {E : XK} (tg iter : Expr), Ok X Γ E k → okI X.N X.env.scope it tg iter = true → PI X tg iter (tI Γ E X.mg it)
  | .e a, X, E, tg, iter, ok, h => by
    simp only [okI] at h
    refine (pi_val (sE a _ ok h).1).imp fun σ H R ⟨H0, M0, M, env, eo, q⟩ => ?_
    simp only [evI] at q
    refine ⟨H0, M0, M, env, eo, (Rp.bind q).imp fun r _ q v H1 s1 rv => ?_⟩
    split at q
    · exact q.elim
    · rename_i hb
      have hb : isBo r = false := by simpa using hb
      split at q
      · rename_i ds hd
        have tp := rv_top rv hb
        have c := rv.cn
        have q : ∀ J H', Same H H' → Wk H' (Lm H0 M r.m) J ds → R J H' := q
        generalize r.d = d at hd tp c
        cases c <;> simp only [itemsOf, reduceCtorEq] at hd
        · cases hd
          exact .inr (.inr ⟨_, rfl, q _ H1 s1 (wk_str _)⟩)
        · rename_i r' s'
          cases hd
          exact .inl ⟨_, _, rfl, .inl r', q _ H1 s1 (wk_list r' (tp _ rfl ⟨_, rfl⟩) s')⟩
        · rename_i r' s'
          cases hd
          exact .inr (.inl ⟨_, _, rfl, .inl (.inl r'), q _ H1 s1 (wk_tup r' s')⟩)
      · exact q.elim
  | .r1 a, X, E, tg, iter, ok, h => by
    simp only [okI] at h
    split at h
    · simp only [Bool.and_eq_true, decide_eq_true_eq] at h
      obtain ⟨⟨rfl, h1⟩, h2⟩ := h
      refine (pi_range1 (gl_of h1).1 (ok.blt _ (by decide)) (pa_cons (sE a _ ok h2).1 pa_nil (star_cons h2 _ _)) (star_cons h2 _ _)).imp fun σ H R ⟨H0, M0, M, env, eo, q⟩ => ?_
      simp only [evI] at q
      refine ⟨H0, M0, M, env, eo, (Rp.bind q).imp fun r _ q v H1 s1 rv => ?_⟩
      split at q
      · rename_i n hn
        split at q
        · rename_i hz
          simp only [Bool.and_eq_true, decide_eq_true_eq, sm] at hz
          exact ⟨n, by rw [sc_sc rv hn], hz.1, hz.2, q _ H1 s1 (wk_rng 0 n.toNat)⟩
        · exact q.elim
      · exact q.elim
    · cases h
  | .r2 a b, X, E, tg, iter, ok, h => by
    simp only [okI] at h
    split at h
    · simp only [Bool.and_eq_true, decide_eq_true_eq] at h
      obtain ⟨⟨⟨rfl, h1⟩, h2⟩, h3⟩ := h
      refine (pi_range2 (gl_of h1).1 (ok.blt _ (by decide)) (pa_cons (sE a _ ok h2).1 (pa_cons (sE b _ ok h3).1 pa_nil (star_cons h3 _ _)) (star_cons h2 _ _)) (by rw [star_cons h2, star_cons h3]; rfl) (star_cons h3 _ _)).imp fun σ H R ⟨H0, M0, M, env, eo, q⟩ => ?_
      simp only [evI] at q
      refine ⟨H0, M0, M, env, eo, (Rp.bind q).imp fun r _ q v H1 s1 rv => ⟨H0, M0, M, env, eo.up s1, ((Rp.bind q).same s1).imp fun r2 _ q u H2 s2 rv2 => ?_⟩⟩
      split at q
      · rename_i i j hi hj
        split at q
        · rename_i hz
          simp only [Bool.and_eq_true, decide_eq_true_eq, sm] at hz
          exact ⟨i, j, by rw [sc_sc rv hi, sc_sc rv2 hj], ⟨hz.1.1, hz.1.2, hz.2.1, hz.2.2⟩, q _ H2 (s1.trans s2) (wk_rng i (j - i).toNat)⟩
        · exact q.elim
      · exact q.elim
    · cases h
  | .r3 a b c, X, E, tg, iter, ok, h => by
    simp only [okI] at h
    split at h
    · simp only [Bool.and_eq_true, decide_eq_true_eq] at h
      obtain ⟨⟨⟨⟨rfl, h1⟩, h2⟩, h3⟩, h4⟩ := h
      refine (pi_range3 (gl_of h1).1 (ok.blt _ (by decide)) (pa_cons (sE a _ ok h2).1 (pa_cons (sE b _ ok h3).1 (pa_cons (sE c _ ok h4).1 pa_nil (star_cons h4 _ _)) (star_cons h3 _ _)) (star_cons h2 _ _)) (star_cons h2 _ _) (back_any _ _ (by rw [star_cons h3, star_cons h4]; rfl))).imp fun σ H R ⟨H0, M0, M, env, eo, q⟩ => ?_
      simp only [evI] at q
      refine ⟨H0, M0, M, env, eo, (Rp.bind q).imp fun r _ q v H1 s1 rv => ⟨H0, M0, M, env, eo.up s1, ((Rp.bind q).same s1).imp fun r2 _ q u H2 s2 rv2 => ⟨H0, M0, M, env, eo.up (s1.trans s2), ((Rp.bind q).same (s1.trans s2)).imp fun r3 _ q u3 H3 s3 rv3 => ?_⟩⟩⟩
      split at q
      · rename_i i j l hi hj hl
        split at q
        · rename_i hz
          simp only [Bool.and_eq_true, decide_eq_true_eq, sm] at hz
          obtain ⟨⟨⟨z1, z2⟩, z3, z4⟩, rfl⟩ := hz
          exact ⟨i, j, -1, (i - j).toNat, by rw [sc_sc rv hi, sc_sc rv2 hj, sc_sc rv3 hl], RgC.neg z1 z2 z3 z4, q _ H3 ((s1.trans s2).trans s3) (wk_rngC i (-1) (i - j).toNat)⟩
        · exact q.elim
      · exact q.elim
    · cases h
  | .zip a b, X, E, tg, iter, ok, h => by
    simp only [okI] at h
    split at h
    · simp only [Bool.and_eq_true, decide_eq_true_eq] at h
      obtain ⟨⟨⟨⟨rfl, ht⟩, h1⟩, h2⟩, h3⟩ := h
      cases tg <;> simp only [isTup, Bool.false_eq_true] at ht
      refine (pi_z2 (gl_of h1).1 (ok.blt _ (by decide)) (pa_cons (sE a _ ok h2).1 (pa_cons (sE b _ ok h3).1 pa_nil (star_cons h3 _ _)) (star_cons h2 _ _)) (star_cons h2 _ _) (back_any _ _ (by rw [star_cons h3]; rfl))).imp fun σ H R ⟨H0, M0, M, env, eo, q⟩ => ?_
      simp only [evI] at q
      refine ⟨H0, M0, M, env, eo, (Rp.bind q).imp fun r _ q v H1 s1 rv => ⟨H0, M0, M, env, eo.up s1, ((Rp.bind q).same s1).imp fun r2 _ q u H2 s2 rv2 => ?_⟩⟩
      split at q
      · exact q.elim
      · rename_i hb
        simp only [Bool.or_eq_true, not_or, Bool.not_eq_true] at hb
        split at q
        · rename_i ds es hd he
          obtain ⟨xs, G1, S1, t1, g1, k1⟩ := rp_src (rv.same s2) hb.1 hd
          obtain ⟨ys, G2, S2, t2, g2, k2⟩ := rp_src rv2 hb.2 he
          exact ⟨v, u, xs, ys, G1, G2, rfl, S1, S2, g1, g2, q _ H2 (s1.trans s2) (wk_z2 (t1.wk fun _ => Lm.orl) (t2.wk fun _ => Lm.orr) (fun H' L2 k => k1 H' L2 ⟨fun a u l e => k.1 a u l.orl e, k.2⟩) (fun H' L2 k => k2 H' L2 ⟨fun a u l e => k.1 a u l.orr e, k.2⟩))⟩
        · exact q.elim
    · cases h
  | .zip3 a b c, X, E, tg, iter, ok, h => by
    simp only [okI] at h
    split at h
    · simp only [Bool.and_eq_true, decide_eq_true_eq] at h
      obtain ⟨⟨⟨⟨⟨rfl, ht⟩, h1⟩, h2⟩, h3⟩, h4⟩ := h
      cases tg <;> simp only [isTup, Bool.false_eq_true] at ht
      refine (pi_z3 (gl_of h1).1 (ok.blt _ (by decide)) (pa_cons (sE a _ ok h2).1 (pa_cons (sE b _ ok h3).1 (pa_cons (sE c _ ok h4).1 pa_nil (star_cons h4 _ _)) (star_cons h3 _ _)) (star_cons h2 _ _)) (star_cons h2 _ _) (back_any _ _ (by rw [star_cons h3, star_cons h4]; rfl))).imp fun σ H R ⟨H0, M0, M, env, eo, q⟩ => ?_
      simp only [evI] at q
      refine ⟨H0, M0, M, env, eo, (Rp.bind q).imp fun r _ q v H1 s1 rv => ⟨H0, M0, M, env, eo.up s1, ((Rp.bind q).same s1).imp fun r2 _ q u H2 s2 rv2 => ⟨H0, M0, M, env, eo.up (s1.trans s2), ((Rp.bind q).same (s1.trans s2)).imp fun r3 _ q u3 H3 s3 rv3 => ?_⟩⟩⟩
      split at q
      · exact q.elim
      · rename_i hb
        simp only [Bool.or_eq_true, not_or, Bool.not_eq_true] at hb
        split at q
        · rename_i ds es fs hd he hf
          obtain ⟨xs, G1, S1, t1, g1, k1⟩ := rp_src (rv.same (s2.trans s3)) hb.1.1 hd
          obtain ⟨ys, G2, S2, t2, g2, k2⟩ := rp_src (rv2.same s3) hb.1.2 he
          obtain ⟨zs, G3, S3, t3, g3, k3⟩ := rp_src rv3 hb.2 hf
          exact ⟨v, u, u3, xs, ys, zs, G1, G2, G3, rfl, S1, S2, S3, g1, g2, g3, q _ H3 ((s1.trans s2).trans s3) (wk_z3 (t1.wk fun _ l => l.orl.orl) (t2.wk fun _ l => l.orr.orl) (t3.wk fun _ => Lm.orr)
            (fun H' L2 k => k1 H' L2 ⟨fun a u l e => k.1 a u l.orl.orl e, k.2⟩) (fun H' L2 k => k2 H' L2 ⟨fun a u l e => k.1 a u l.orr.orl e, k.2⟩) (fun H' L2 k => k3 H' L2 ⟨fun a u l e => k.1 a u l.orr e, k.2⟩))⟩
        · exact q.elim
    · cases h
  | .enum a, X, E, tg, iter, ok, h => by
    simp only [okI] at h
    split at h
    · simp only [Bool.and_eq_true, decide_eq_true_eq] at h
      obtain ⟨⟨⟨rfl, ht⟩, h1⟩, h2⟩ := h
      cases tg <;> simp only [isTup, Bool.false_eq_true] at ht
      refine (pi_en (gl_of h1).1 (ok.blt _ (by decide)) (pa_cons (sE a _ ok h2).1 pa_nil (star_cons h2 _ _)) (star_cons h2 _ _)).imp fun σ H R ⟨H0, M0, M, env, eo, q⟩ => ?_
      simp only [evI] at q
      refine ⟨H0, M0, M, env, eo, (Rp.bind q).imp fun r _ q v H1 s1 rv => ?_⟩
      split at q
      · exact q.elim
      · rename_i hb
        have hb : isBo r = false := by simpa using hb
        split at q
        · rename_i ds hd
          have tp := rv_top rv hb
          have c := rv.cn
          rw [hd] at c
          cases c with
          | lst r' s' => exact .inl ⟨_, _, rfl, r', q _ H1 s1 (wk_en s' fun H' L2 k => k.rd (tp _ rfl ⟨_, hd⟩) r')⟩
        · rename_i z hd
          have c := rv.cn
          rw [hd] at c
          cases c
          refine .inr ⟨z, rfl, q _ H1 s1 (wk_en ?_ fun _ _ _ => trivial)⟩
          unfold signsV
          generalize z.cps.toList = l
          induction l with
          | nil => exact .nil
          | cons c l ih => exact .cons (.str _) ih
        · exact q.elim
    · cases h
  | .rev a, X, E, tg, iter, ok, h => by
    simp only [okI] at h
    split at h
    · simp only [Bool.and_eq_true, decide_eq_true_eq] at h
      obtain ⟨⟨rfl, h1⟩, h2⟩ := h
      refine (pi_reversed (gl_of h1).1 (ok.blt _ (by decide)) (pa_cons (sE a _ ok h2).1 pa_nil (star_cons h2 _ _)) (star_cons h2 _ _)).imp fun σ H R ⟨H0, M0, M, env, eo, q⟩ => ?_
      simp only [evI] at q
      refine ⟨H0, M0, M, env, eo, (Rp.bind q).imp fun r _ q v H1 s1 rv => ?_⟩
      split at q
      · exact q.elim
      · rename_i hb
        have hb : isBo r = false := by simpa using hb
        split at q
        · rename_i ds hd
          have tp := rv_top rv hb
          have c := rv.cn
          rw [hd] at c
          cases c with
          | lst r' s' => exact ⟨_, _, rfl, .inl r', q _ H1 s1 (wk_rev r' (tp _ rfl ⟨_, hd⟩) s')⟩
        · exact q.elim
    · cases h
end
end
end En

set_option Elab.async false
set_option linter.all false
set_option maxRecDepth 100000
set_option maxHeartbeats 4000000
namespace En
open PySem PySem.Spec PyProof.Rows L2
theorem sz (n : Nat) (h : n ≤ 16777216) : n ≤ sizeLine := by rw [sizeLine_eq]; exact h
theorem slt {n : Nat} (h : n < 16777216) : n < sizeLine := by rw [sizeLine_eq]; exact h
theorem attr_name {x f : Str} {p : Pos} {env : Env} : attributeBase (.Name x p) f env (eval (.Name x p) env) = eval (.Name x p) env := rfl

/-! ### what a caught thing is -/
section
variable {X : Cx} {a D : Addr} {oe : Obj}
theorem inst_at {pins : List (Addr × Obj)} {σ : L2.St} {H : Hp} {s : Shared} (I : Inv X pins σ H s) (hp : (a, oe) ∈ X.pn) (hz : Zc (.ref D) none oe) (hf : ∃ vs, oe.data = .fields vs) : PySem.W.InstAt s.heap a oe D none := by
  obtain ⟨hget, _⟩ := I.pin (a, oe) (List.mem_append.mpr (.inl hp))
  obtain ⟨vs, hv⟩ := hf
  obtain ⟨oc, od, oda, osl⟩ := oe
  obtain ⟨h1, h2⟩ := hz
  dsimp only at h1 h2 hv
  subst h1 h2 hv
  exact ⟨hget, rfl, rfl, trivial⟩
theorem call_isX (C : ExcC X.K D) (hp : (a, oe) ∈ X.pn) (hz : Zc (.ref D) none oe) (hf : ∃ vs, oe.data = .fields vs) : CallR X (.builtin "isinstance") (rIsE X.K D a) := by
  intro pins s σ H xs us Q I r h
  obtain ⟨c, cv, b, rfl, hcv, e, q⟩ := h
  obtain ⟨u1, u2, rfl, r1, r2⟩ := vals2 r
  cases (show u1 = Value.ref a from r1)
  obtain rfl := hcv _ r2
  exact PySem.W.kia_one (PySem.W.handS_kitx_exc C.hg C.hk C.hs C.hd C.ha C.hn C.ht C.hm) I.kIn (inst_at I hp hz hf) e (fun z => nomatch z) fun tk => ⟨.bl b, H, I.kept (t' := tk) fun _ _ z => z, rfl, q⟩
def rIsXT (K : PySem.W.Frag) (D a : Addr) : List V → Hp → VK → Prop := fun xs H Q => ∃ (tp : Addr) (cs : List V) (us : List Value) (b : Bool), xs = [.ref a, .ref tp] ∧ H tp = some (.tup cs) ∧ (∀ ws, Vals cs ws → ws = us) ∧ PySem.W.kitAny K (.ref D) us = some b ∧ Q (.bl b) H
theorem call_isXT (C : ExcC X.K D) (hp : (a, oe) ∈ X.pn) (hz : Zc (.ref D) none oe) (hf : ∃ vs, oe.data = .fields vs) : CallR X (.builtin "isinstance") (rIsXT X.K D a) := by
  intro pins s σ H xs us Q I r h
  obtain ⟨tp, cs, ws, b, rfl, hT, hcs, e, q⟩ := h
  obtain ⟨u1, u2, rfl, r1, r2⟩ := vals2 r
  cases (show u1 = Value.ref a from r1)
  cases (show u2 = Value.ref tp from r2)
  obtain ⟨_, its, rv, o, h1, h2, n, h3⟩ := (show ObjOk X.prog X.w H s.heap tp (.tup cs) from I.hok tp _ hT)
  obtain rfl := hcs _ rv
  obtain ⟨oc, od, dt, sl⟩ := o
  simp only at h2 h3
  subst h2 h3
  exact PySem.W.kia_tup (PySem.W.handS_kitx_exc C.hg C.hk C.hs C.hd C.ha C.hn C.ht C.hm) I.kIn (inst_at I hp hz hf) h1 e (fun z => nomatch z) fun tk => ⟨.bl b, H, I.tok tk, rfl, q⟩
end
def okCs (sc : Scope) : List Str → List Expr → Bool
  | [], es => match es with | [] => true | _ => false
  | c :: cs, es => match es with | .Name y _ :: r => decide (y = c) && glOk sc c && decide (c ≠ "__name__") && okCs sc cs r | _ => false
mutual
def okWT (N : List Str) (sc : Scope) (i : Nat) : WT → Expr → Bool
  | .is c, e => match e with | .Call (.Name f _) [.Name x _, .Name y _] [] _ => decide (f = "isinstance") && glOk sc f && slotOk N sc i x && decide (y = c) && glOk sc c && decide (c ≠ "__name__") | _ => false
  | .tup cs, e => match e with | .Call (.Name f _) [.Name x _, .Tuple es _ _] [] _ => decide (f = "isinstance") && glOk sc f && slotOk N sc i x && okCs sc cs es && decide (cs.length ≤ 16777216) | _ => false
  | .or ts, e => match e with | .BoolOp .Or es _ => okWTs N sc i ts es | _ => false
  | .not t, e => match e with | .UnaryOp .Not a _ => okWT N sc i t a | _ => false
def okWTs (N : List Str) (sc : Scope) (i : Nat) : WTs → List Expr → Bool
  | .one t, es => match es with | [e] => okWT N sc i t e | _ => false
  | .cons t ts, es => match es with | e :: e2 :: r => okWT N sc i t e && okWTs N sc i ts (e2 :: r) | _ => false
end
def evCs (val : Str → Option Bool) : List Str → Option Bool
  | [] => some false
  | c :: cs => match val c, evCs val cs with
    | some b, some r => some (b || r)
    | _, _ => none
mutual
def evWT (val : Str → Option Bool) : WT → Option Bool
  | .is c => val c
  | .tup cs => evCs val cs
  | .or ts => evWTs val ts
  | .not t => (evWT val t).map (!·)
def evWTs (val : Str → Option Bool) : WTs → Option Bool
  | .one t => evWT val t
  | .cons t ts => match evWT val t with
    | some true => some true
    | some false => evWTs val ts
    | none => none
end
/-- what the classes' names tell of D -/
def ValOk (mg : Str → Option Value) (K : PySem.W.Frag) (D : Addr) (val : Str → Option Bool) : Prop :=
  ∀ c b, val c = some b → ∃ (v : V) (cv : Value), (mg c = some cv ∨ (mg c = none ∧ bootBuiltins c = some cv)) ∧ RelV v cv ∧ (∀ u, RelV v u → u = cv) ∧ PySem.W.kitOne K (.ref D) cv = some b
section
variable {X : Cx} {a D : Addr} {oe : Obj} {val : Str → Option Bool} {i : Nat}
theorem pe_cls {c : Str} {p : Pos} {v : V} {cv : Value} (h : X.mg c = some cv ∨ (X.mg c = none ∧ bootBuiltins c = some cv)) (r : RelV v cv) (hg : glOk X.env.scope c = true) (hn : c ≠ "__name__") : PE X (.Name c p) (L2.tC v) := by
  obtain ⟨g1, g2⟩ := gl_of hg
  rcases h with h | ⟨h1, h2⟩
  · exact pe_glob g1 h r g2
  · exact pe_bltn g1 h1 h2 r hn g2
theorem cs_ok (V1 : ValOk X.mg X.K D val) : ∀ (cs : List Str) (es : List Expr) (b : Bool), okCs X.env.scope cs es = true → evCs val cs = some b →
    ∃ (vs : List V) (us : List Value), PA X es (fun _ H Q => Q vs H) ∧ vs.length = cs.length ∧ (∀ ws, Vals vs ws → ws = us) ∧ PySem.W.kitAny X.K (.ref D) us = some b
  | [], es, b, h, e => by
    simp only [okCs] at h
    split at h
    · cases e
      exact ⟨[], [], pa_nil, rfl, fun ws r => by cases r; rfl, rfl⟩
    · cases h
  | c :: cs, es, b, h, e => by
    simp only [okCs] at h
    split at h
    · simp only [Bool.and_eq_true, decide_eq_true_eq] at h
      obtain ⟨⟨⟨rfl, h1⟩, h2⟩, h3⟩ := h
      unfold evCs at e
      split at e
      · rename_i b1 b2 e1 e2
        cases e
        obtain ⟨v, cv, hm, r, hu, hk⟩ := V1 _ _ e1
        obtain ⟨vs, us, p, hl, hus, hks⟩ := cs_ok V1 cs _ b2 h3 e2
        refine ⟨v :: vs, cv :: us, pa_cons (pe_cls hm r h1 h2) p, by simp [hl], fun ws r => ?_, ?_⟩
        · cases r with
          | cons r1 r2 => rw [hu _ r1, hus _ r2]
        · exact L2.kitAny_cons hk (fun z => by rw [z]; simpa using hks) (fun z => by rw [z]; rfl)
      · cases e
    · cases h
def tWT (val : Str → Option Bool) (i : Nat) (a : Addr) (t : WT) : TT := fun σ H Q => σ[i]? = some (some (.ref a)) ∧ ∃ b, evWT val t = some b ∧ ∀ H', Same H H' → Q b H'
def tWTs (val : Str → Option Bool) (i : Nat) (a : Addr) (t : WTs) : TT := fun σ H Q => σ[i]? = some (some (.ref a)) ∧ ∃ b, evWTs val t = some b ∧ ∀ H', Same H H' → Q b H'
variable (hi : X.mg "isinstance" = none) (C : ExcC X.K D) (hp : (a, oe) ∈ X.pn) (hz : Zc (.ref D) none oe) (hf : ∃ vs, oe.data = .fields vs) (V1 : ValOk X.mg X.K D val)
include hi C hp hz hf V1
mutual
theorem wt_ok : ∀ (t : WT) (e : Expr), okWT X.N X.env.scope i t e = true → PT X e (tWT val i a t)
  | .is c, e, h => by
    simp only [okWT] at h
    split at h
    · simp only [Bool.and_eq_true, decide_eq_true_eq] at h
      obtain ⟨⟨⟨⟨⟨rfl, h1⟩, h2⟩, rfl⟩, h3⟩, h4⟩ := h
      refine ⟨fun pins s σ H Q I ⟨hs, b, hb, q⟩ => ?_⟩
      obtain ⟨v, cv, hm, r, hu, hk⟩ := V1 _ _ hb
      refine PT.run (pt_val (pe_callB (call_isX C hp hz hf) (gl_of h1).1 hi (by decide +kernel) (pa_cons (pe_v h2) (pa_cons (pe_cls hm r h3 h4) pa_nil)))) pins s σ H Q I ?_
      refine ⟨.ref a, hs, v, cv, b, rfl, hu, hk, b, rfl, q H fun _ _ z => z⟩
    · cases h
  | .tup cs, e, h => by
    simp only [okWT] at h
    split at h
    · simp only [Bool.and_eq_true, decide_eq_true_eq] at h
      obtain ⟨⟨⟨⟨rfl, h1⟩, h2⟩, h3⟩, h4⟩ := h
      refine ⟨fun pins s σ H Q I ⟨hs, b, hb, q⟩ => ?_⟩
      obtain ⟨vs, us, p, hl, hu, hk⟩ := cs_ok V1 cs _ b h3 hb
      refine PT.run (pt_val (pe_callB (call_isXT C hp hz hf) (gl_of h1).1 hi (by decide +kernel) (pa_cons (pe_v h2) (pa_cons (pe_tup p) pa_nil)))) pins s σ H Q I ?_
      refine ⟨.ref a, hs, sz _ (by rw [hl]; exact h4), fun tp htp => ?_⟩
      exact ⟨tp, vs, us, b, rfl, upd_same, hu, hk, b, rfl, q _ (same_new htp)⟩
    · cases h
  | .or ts, e, h => by
    simp only [okWT] at h
    split at h
    · exact (wts_ok ts _ _ h).pt
    · cases h
  | .not t, e, h => by
    simp only [okWT] at h
    split at h
    · refine PT.imp (pt_not (wt_ok t _ h)) fun σ H Q ⟨hs, b, hb, q⟩ => ?_
      unfold evWT at hb
      cases e1 : evWT val t with
      | none => rw [e1] at hb; cases hb
      | some c =>
        rw [e1] at hb
        cases hb
        exact ⟨hs, c, e1, q⟩
    · cases h
theorem wts_ok : ∀ (ts : WTs) (es : List Expr) (p : Pos), okWTs X.N X.env.scope i ts es = true → PW X (.BoolOp .Or es p) (tWTs val i a ts)
  | .one t, es, p, h => by
    simp only [okWTs] at h
    split at h
    · exact (pw_or1 (wt_ok t _ h)).imp fun σ H Q ⟨hs, b, hb, q⟩ => ⟨hs, b, hb, q⟩
    · cases h
  | .cons t ts, es, p, h => by
    simp only [okWTs] at h
    split at h
    · simp only [Bool.and_eq_true] at h
      refine (pw_or (wt_ok t _ h.1) (wts_ok ts _ p h.2)).imp fun σ H Q ⟨hs, b, hb, q⟩ => ?_
      unfold evWTs at hb
      split at hb
      · rename_i e1
        cases hb
        exact ⟨hs, true, e1, fun H' sm => q H' sm⟩
      · rename_i e1
        refine ⟨hs, false, e1, fun H' sm => ?_⟩
        exact ⟨hs, b, hb, fun H2 sm2 => q H2 (sm.trans sm2)⟩
      · cases hb
    · cases h
end
end
/-! ### a def that tells in words what a caught thing is -/
section
variable {X : Cx} {a D : Addr} {oe : Obj} {val : Str → Option Bool} {i w : Nat}
variable (hi : X.mg "isinstance" = none) (C : ExcC X.K D) (hp : (a, oe) ∈ X.pn) (hz : Zc (.ref D) none oe) (hf : ∃ vs, oe.data = .fields vs) (V1 : ValOk X.mg X.K D val)
include hi C hp hz hf V1
end
/-! ### a def called within an except suite, with the thing that is handled -/
open L2H in
structure FnS (P : Program) (w : World) (K : PySem.W.Frag) (mg : Str → Option Value) (base : Heap) (CX : CXT) (k : Nat) (f : Addr) (fd : FuncData) (ps : List Str) (D : Addr) (z : Str) : Prop where
  len : ps.length = 1
  run : ∀ (A : Around) (outer : List Env) (s : Shared) (H : Hp) (args : Args) (Q : VK) (E : XK) (p : Addr × Obj), RoomH k A → PinOk outer H s p → Zc (.ref D) none p.2 → (∃ vs, p.2.data = .fields vs) → Env0 P w K mg base A outer s H → BindsTo s fd args (ps.zip [.ref p.1]) → (∀ H', Same H H' → Q (.str z) H') →
    codeAny (model P w) A (.call (.ref f) args) (CR CX outer P w H s Q E) s
open L2H in
section
open L2H
variable {X : Cx} {CX : CXT} {k : Nat} {f : Addr} {fd : FuncData} {ps : List Str} {D : Addr} {z : Str} {x y : Str} {p : Addr × Obj} {q q2 pos : Pos} {i : Nat}
/-- f(e), e the thing that the suite handles -/
theorem pe_callX (F : FnS X.prog X.w X.K X.mg X.base CX k f fd ps D z) (hr : RoomH k X.A) (hp : p ∈ X.pn) (hz : Zc (.ref D) none p.2) (hf : ∃ vs, p.2.data = .fields vs) (hg : Gl X x) (hdb : (x == ("__debug__" : Str)) = false) (hm : X.mg x = some (.ref f)) (hk : PySem.W.keepIn X.K (.ref f) = true) (hb : Binds X.K fd ps []) (hx : ∀ σ, PassesAt CX X σ (fun _ _ _ => False)) (hs : slotOk X.N X.env.scope i y = true) :
    PE X (.Call (.Name x q) [.Name y q2] [] pos) (fun σ H Q => σ[i]? = some (some (.ref p.1)) ∧ ∀ H', Same H H' → Q (.str z) H') := by
  refine ⟨fun pins s σ H Q I ⟨h1, h2⟩ => ?_⟩
  refine wpAny_Call_Name_kw (ld_glob I hg hm ?_ hdb)
  refine PySem.W.callWith_K (h₀ := X.base) I.ok.mod.kin hk (thn ((pa_cons (pe_v hs) pa_nil).run pos pins s σ H (fun vs H1 => vs = [.ref p.1] ∧ ∀ H', Same H1 H' → Q (.str z) H') I ⟨.ref p.1, h1, rfl, h2⟩) fun us s1 ⟨vs, H1, I1, r, e, q1⟩ => ⟨I1.kIn, ?_⟩) rfl rfl
  subst e
  obtain rfl := Vals.ref1 r
  have hl : ([Value.ref p.1] : List Value).length = ps.length := by rw [F.len]; rfl
  have b := hb s1 [.ref p.1] I1.kIn (by rw [List.append_nil]; exact hl)
  rw [List.append_nil] at b
  have P1 := I1.pin p (List.mem_append_left _ hp)
  have hpin : PinOk X.stack H1 s1 p := ⟨P1.1, P1.2.1, fun hm => (List.mem_cons.mp (I1.stkSub p.1 hm)).elim P1.2.2.1 P1.2.2.2.1, P1.2.2.2.2⟩
  refine wpAny_call (codeAny_mono (F.run X.A X.stack s1 H1 ⟨[.ref p.1], []⟩ Q (fun _ _ _ => False) p hr hpin hz hf I1.env0 b q1) fun r s' hq => ?_)
  cases r with
  | error e => exact hx σ pins H1 s1 e s' I1 hq
  | ok fl =>
    cases fl with
    | ret u => exact I1.after hq
    | next => exact False.elim hq
    | brk => exact False.elim hq
    | cont => exact False.elim hq
end
/-! ### a word def, by its text -/
section
variable {P : Program} {w : World} {K : PySem.W.Frag} {mg : Str → Option Value} {base : Heap}
open L2H in
end
/-! ### what may be refused, what is asked of it -/
/-- rz: classes that may be raised; xs: that may be caught; cl: classes that an except clause names; val x c: is a thing of class x one of c; cat: does except c catch it; wd x f: what f tells of it -/
structure Ex where
  rz : List Str
  xs : List Str
  cl : List Str
  val : Str → Str → Option Bool
  cat : Str → Str → Option Bool
  wd : Str → Str → Option Str
def exL (l : List Str) : Ex := ⟨l, [], [], fun _ _ => none, fun _ _ => none, fun _ _ => none⟩
structure XFact (ex : Ex) (mg : Str → Option Value) (P : Program) (w : World) (K : PySem.W.Frag) (base : Heap) (x : Str) (C : Addr) : Prop where
  c : ExcC K C
  v : ValOk mg K C (ex.val x)
  t : ∀ T b, ex.cat x T = some b → ∀ cT, mg T = some (.ref cT) → PySem.W.exmOne K (.ref C) (.ref cT) = some b
  w : ∀ f z, ex.wd x f = some z → ∃ fw fdw psw, FnS P w K mg base (L2.CX P w) 1 fw fdw psw C z ∧ mg f = some (.ref fw) ∧ PySem.W.keepIn K (.ref fw) = true ∧ Binds K fdw psw []
def okT (N : List Str) (sc : Scope) : TB → Stmt → Bool
  | .ex f es, s => match s with | .Expr v _ => okE N sc (.call f es) v | _ => false
  | .st i _ f es, s => match s with | .Assign [.Name x p] v _ => tgOk N sc i (.Name x p) && okE N sc (.call f es) v | _ => false
  | .if_ c a b, s => match s with | .If t [x] [y] _ => okE N sc c t && okT N sc a x && okT N sc b y | _ => false
def okX (N : List Str) (sc : Scope) (n : Nat) : List XSt → List Stmt → Bool
  | [], ss => match ss with | [] => true | _ => false
  | .set i z :: l, ss => match ss with | .Assign [.Name x p] (.Constant (.str y) _ _) _ :: r => tgOk N sc i (.Name x p) && decide (i ≠ n) && decide (y = z) && okX N sc n l r | _ => false
  | .ifs t i z :: l, ss => match ss with | .If c [.Assign [.Name x p] (.Constant (.str y) _ _) _] [] _ :: r => okWT N sc n t c && tgOk N sc i (.Name x p) && decide (i ≠ n) && decide (y = z) && okX N sc n l r | _ => false
  | .word i f :: l, ss => match ss with | .Assign [.Name x p] (.Call (.Name g _) [.Name y _] [] _) _ :: r => tgOk N sc i (.Name x p) && decide (i ≠ n) && decide (g = f) && glOk sc f && slotOk N sc n y && okX N sc n l r | _ => false
def evX (val : Str → Option Bool) (wd : Str → Option Str) : List XSt → Option (List (Nat × Str))
  | [] => some []
  | .set i z :: l => match evX val wd l with
    | some r => some ((i, z) :: r)
    | none => none
  | .ifs t i z :: l => match evWT val t, evX val wd l with
    | some b, some r => some (if b then (i, z) :: r else r)
    | _, _ => none
  | .word i f :: l => match wd f, evX val wd l with
    | some z, some r => some ((i, z) :: r)
    | _, _ => none
def okTry (ex : Ex) (N : List Str) (sc : Scope) (b : TB) (tb : List (Str × List (Nat × Str))) (n : Nat) (sx : List XSt) : Stmt → Bool
  | .Try [sb] [.ExceptHandler (some (.Name T _)) (some nm) (s0 :: ss) _] [] [] _ => okT N sc b sb && okX N sc n sx (s0 :: ss) && decide (N[n]? = some nm) && decide (sc.names.lookup nm = some .local) && glOk sc T && decide (T ∈ ex.cl) &&
      tb.all fun p => decide (p.1 ∈ ex.xs) && decide (ex.cat p.1 T = some true) && decide (evX (ex.val p.1) (ex.wd p.1) sx = some p.2)
  | _ => false
def setV : List (Nat × Str) → L2.St → L2.St
  | [], σ => σ
  | p :: l, σ => setV l (σ.set p.1 (some (.str p.2)))
theorem tg_loc {N : List Str} {sc : Scope} {i : Nat} {x : Str} {p : Pos} (h : tgOk N sc i (.Name x p) = true) : N[i]? = some x ∧ Loc sc x := by
  simp only [tgOk, Bool.and_eq_true, decide_eq_true_eq] at h
  obtain ⟨hN, hk⟩ := h
  refine ⟨hN, ?_⟩
  unfold kL at hk
  split at hk
  · rename_i q; exact .inl q
  · rename_i q; exact .inr q
  · cases hk
section
variable {X : Cx} {a D : Addr} {oe : Obj} {val : Str → Option Bool} {wd : Str → Option Str} {n : Nat}
variable (hi : X.mg "isinstance" = none) (C : ExcC X.K D) (hp : (a, oe) ∈ X.pn) (hz : Zc (.ref D) none oe) (hf : ∃ vs, oe.data = .fields vs) (V1 : ValOk X.mg X.K D val)
  (hr : L2H.RoomH 1 X.A) (hW : ∀ f z, wd f = some z → ∃ fw fdw psw, FnS X.prog X.w X.K X.mg X.base (L2.CX X.prog X.w) 1 fw fdw psw D z ∧ X.mg f = some (.ref fw) ∧ PySem.W.keepIn X.K (.ref fw) = true ∧ Binds X.K fdw psw [])
  (nd : X.N.Nodup) (fn : ∀ x, X.fn x = true)
include hi C hp hz hf V1 hr hW nd fn
theorem x_ok : ∀ (sx : List XSt) (ss : List Stmt), okX X.N X.env.scope n sx ss = true →
    PSs X ss (fun Dn σ H => σ[n]? = some (some (.ref a)) ∧ ∃ l, evX val wd sx = some l ∧ ∀ H', Same H H' → Dn.nx (setV l σ) H')
  | [], ss, h => by
    simp only [okX] at h
    split at h
    · refine pss_nil.imp fun Dn σ H ⟨_, l, e, q⟩ => ?_
      cases e
      exact q H (Same.refl _)
    · cases h
  | .set i z :: l, ss, h => by
    simp only [okX] at h
    split at h
    · simp only [Bool.and_eq_true, decide_eq_true_eq] at h
      obtain ⟨⟨⟨h1, h2⟩, rfl⟩, h4⟩ := h
      obtain ⟨w1, w2⟩ := tg_loc h1
      refine PSs.imp (pss_cons (ps_set nd w1 w2 pe_str rfl (.inl (fn _))) (x_ok l _ h4)) fun Dn σ H ⟨h1, l', e, q⟩ => ?_
      simp only [evX] at e
      split at e
      · rename_i r e1
        cases e
        exact ⟨by rw [List.getElem?_set_ne h2]; exact h1, r, e1, q⟩
      · cases e
    · cases h
  | .ifs t i z :: l, ss, h => by
    simp only [okX] at h
    split at h
    · simp only [Bool.and_eq_true, decide_eq_true_eq] at h
      obtain ⟨⟨⟨⟨h0, h1⟩, h2⟩, rfl⟩, h4⟩ := h
      obtain ⟨w1, w2⟩ := tg_loc h1
      refine PSs.imp (pss_cons (ps_if (wt_ok hi C hp hz hf V1 t _ h0) (pss_cons (ps_set nd w1 w2 pe_str rfl (.inl (fn _))) pss_nil) pss_nil) (x_ok l _ h4)) fun Dn σ H ⟨h1, l', e, q⟩ => ?_
      simp only [evX] at e
      split at e
      · rename_i b r e0 e1
        cases e
        refine ⟨h1, b, e0, fun H' sm => ?_⟩
        cases b with
        | true => exact ⟨by rw [List.getElem?_set_ne h2]; exact h1, r, e1, fun H2 sm2 => q H2 (sm.trans sm2)⟩
        | false => exact ⟨h1, r, e1, fun H2 sm2 => q H2 (sm.trans sm2)⟩
      · cases e
    · cases h
  | .word i f :: l, ss, h => by
    simp only [okX] at h
    split at h
    · simp only [Bool.and_eq_true, decide_eq_true_eq] at h
      obtain ⟨⟨⟨⟨⟨h1, h2⟩, rfl⟩, h3⟩, h4⟩, h5⟩ := h
      obtain ⟨w1, w2⟩ := tg_loc h1
      rename_i x p gn q1 y q2 q3 q4 r
      cases ew : wd gn with
      | none =>
        refine ⟨fun pins s σ H Dn I ⟨_, l', e, _⟩ => ?_⟩
        simp only [evX, ew] at e
        cases e
      | some z =>
        obtain ⟨fw, fdw, psw, Fw, mw, kw, bw⟩ := hW _ _ ew
        have pc := pe_callX (q := q1) (q2 := q2) (pos := q3) (X := X) (p := (a, oe)) Fw hr hp hz hf (gl_of h3).1 (gl_of h3).2 mw kw bw (fun σ _ _ _ _ _ _ c => (cx_no c).elim) h4
        refine PSs.imp (pss_cons (ps_set nd w1 w2 pc rfl (.inl (fn _))) (x_ok l _ h5)) fun Dn σ H ⟨h1, l', e, q⟩ => ?_
        simp only [evX, ew] at e
        split at e
        · rename_i z' r' e0 e1
          cases e0
          cases e
          exact ⟨h1, fun H' sm => ⟨by rw [List.getElem?_set_ne h2]; exact h1, r', e1, fun H2 sm2 => q H2 (sm.trans sm2)⟩⟩
        · cases e
    · cases h
end
end En

set_option Elab.async false
set_option linter.all false
set_option maxRecDepth 100000
set_option maxHeartbeats 8000000
namespace En
open PySem PySem.Spec PyProof.Rows L2

/-! ### the statements against the text -/
def isLc : ME → Bool
  | .lc _ _ _ _ => true
  | _ => false
def ownT : Expr → Bool
  | .Tuple _ _ _ => true
  | .List _ _ => true
  | _ => false
mutual
def okS (ex : Ex) (N : List Str) (sc : Scope) : MS → Stmt → Bool
  | .skip, s => match s with | .Pass _ => true | .Expr (.Constant (.str _) _ _) _ => true | _ => false
  | .set i e _, s => match s with | .Assign [.Name x p] v pos => tgOk N sc i (.Name x p) && okE N sc e v | _ => false
  | .unp l e, s => match s with | .Assign [.Tuple es _ _] v _ => tgsOk N sc l es && !(ownT v) && okE N sc e v | _ => false
  | .par i j a b, s => match s with | .Assign [.Tuple [.Name x px, .Name y py] _ _] (.Tuple [u, v] _ _) _ => decide (N[i]? = some x) && decide (N[j]? = some y) && decide (i ≠ j) && decide (x ≠ y) && decide (sc.names.lookup x = some .local) && decide (sc.names.lookup y = some .local) && decide (px.line = py.line) && !(foldedForSure 8 u) && !(constantsAlone 8 u) && okE N sc a u && okE N sc b v | _ => false
  | .ret e, s => match s with | .Return (some v) _ => okE N sc e v | _ => false
  | .retN, s => match s with | .Return none _ => true | _ => false
  | .reto i, s => match s with | .Return (some (.Name x _)) _ => slotOk N sc i x | _ => false
  | .ife c a b, s => match s with | .If t x y _ => okE N sc c t && okSs ex N sc a x && okSs ex N sc b y | _ => false
  | .for_ g it b, s => match s with | .For tg iter body [] _ => okG N sc g tg && okI N sc it tg iter && okSs ex N sc b body | _ => false
  | .whl c b, s => match s with | .While t body [] _ => okE N sc c t && okSs ex N sc b body | _ => false
  | .exp e, s => match s with | .Expr v _ => !(isLc e) && okE N sc e v | _ => false
  | .app i e, s => match s with | .Expr (.Call (.Attribute (.Name x _) m ap) [v] [] cp) _ => slotOk N sc i x && decide (m = "append") && (ap.endLine == cp.line) && okE N sc e v | _ => false
  | .ext i e, s => match s with | .Expr (.Call (.Attribute (.Name x _) m ap) [v] [] cp) _ => slotOk N sc i x && decide (m = "extend") && (ap.endLine == cp.line) && okE N sc e v | _ => false
  | .put i k e, s => match s with | .Assign [.Subscript (.Name x _) y _] v _ => slotOk N sc i x && okE N sc k y && okE N sc e v | _ => false
  | .dput i k e, s => match s with | .Assign [.Subscript (.Name x _) y _] v _ => slotOk N sc i x && okE N sc k y && okE N sc e v && !(isLc e) | _ => false
  | .ins i k e, s => match s with | .Expr (.Call (.Attribute (.Name x _) m ap) [y, v] [] cp) _ => slotOk N sc i x && decide (m = "insert") && (ap.endLine == cp.line) && okE N sc k y && okE N sc e v | _ => false
  | .popS z i, s => match s with | .Assign [.Name x p] (.Call (.Attribute (.Name y _) m ap) [] [] cp) _ => tgOk N sc z (.Name x p) && slotOk N sc i y && decide (m = "pop") && (ap.endLine == cp.line) | _ => false
  | .popI z i k, s => match s with | .Assign [.Name x p] (.Call (.Attribute (.Name y _) m ap) [v] [] cp) _ => tgOk N sc z (.Name x p) && slotOk N sc i y && decide (m = "pop") && (ap.endLine == cp.line) && okE N sc k v | _ => false
  | .appPop i j k, s => match s with | .Expr (.Call (.Attribute (.Name x _) m ap) [.Call (.Attribute (.Name y _) m2 ap2) [v] [] cp2] [] cp) _ => slotOk N sc i x && decide (m = "append") && (ap.endLine == cp.line) && slotOk N sc j y && decide (m2 = "pop") && (ap2.endLine == cp2.line) && okE N sc k v | _ => false
  | .appTPop i e j k, s => match s with | .Expr (.Call (.Attribute (.Name x _) m ap) [.Tuple [u, .Call (.Attribute (.Name y _) m2 ap2) [v] [] cp2] _ _] [] cp) _ => slotOk N sc i x && decide (m = "append") && (ap.endLine == cp.line) && okE N sc e u && slotOk N sc j y && decide (m2 = "pop") && (ap2.endLine == cp2.line) && okE N sc k v | _ => false
  | .popX i k, s => match s with | .Expr (.Call (.Attribute (.Name y _) m ap) [v] [] cp) _ => slotOk N sc i y && decide (m = "pop") && (ap.endLine == cp.line) && okE N sc k v | _ => false
  | .mc f es, s => match s with | .Expr (.Call (.Name g _) (x :: xs) [] _) _ => decide (f = g) && glOk sc g && okEs N sc es (x :: xs) | _ => false
  | .raise_ x m, s => match s with | .Raise (some (.Call (.Name y _) [.Constant (.str m') _ _] [] _)) none _ => decide (x = y) && decide (m = m') && decide (x ∈ ex.rz) && glOk sc x | _ => false
  | .mov i j, s => match s with | .Assign [.Name x p] (.Name y _) _ => tgOk N sc i (.Name x p) && slotOk N sc j y | _ => false
  | .try_ b tb n sx, s => okTry ex N sc b tb n sx s
  | .brk, s => match s with | .Break _ => true | _ => false
  | .cnt, s => match s with | .Continue _ => true | _ => false
  | .never, _ => true
def okSs (ex : Ex) (N : List Str) (sc : Scope) : MSs → List Stmt → Bool
  | .nil, ss => match ss with | [] => true | _ => false
  | .cons m r, ss => match ss with | s :: t => okS ex N sc m s && okSs ex N sc r t | _ => false
  | .frz _ r, ss => okSs ex N sc r ss
end

/-! ### how the state may go on -/
def Evo (H : Hp) (M : AS) (H' : Hp) (M' : AS) : Prop := ∀ a u, ¬ M a → H a = some u → H' a = some u ∧ ¬ M' a
theorem Evo.refl (H : Hp) (M : AS) : Evo H M H M := fun a u m h => ⟨h, m⟩
theorem Evo.trans {H H1 H2 : Hp} {M M1 M2 : AS} (a : Evo H M H1 M1) (b : Evo H1 M1 H2 M2) : Evo H M H2 M2 := fun c u m h => b c u (a c u m h).2 (a c u m h).1
theorem Evo.pre {H H1 H2 : Hp} {M M2 : AS} (s : Same H H1) (b : Evo H1 M H2 M2) : Evo H M H2 M2 := fun c u m h => b c u m (s c u h)
theorem Evo.post {H H1 : Hp} {M : AS} (s : Same H H1) : Evo H M H1 M := fun c u m h => ⟨s c u h, m⟩
theorem Evo.tup {H H' : Hp} {M M' : AS} (e : Evo H M H' M') (dom : ∀ a, M a → ∃ o, H a = some o ∧ Mut (some o)) {a : Addr} {xs : List V} (r : H a = some (.tup xs)) : H' a = some (.tup xs) := by
  have nm : ¬ M a := fun m => by
    obtain ⟨o, q, t⟩ := dom a m
    rw [r] at q; cases q; exact t
  exact (e a _ nm r).1
theorem Evo.kp {H0 H H' : Hp} {M M' : AS} {m : Bool} (e : Evo H M H' M') (dom : ∀ a, M a → ∃ o, H a = some o ∧ Mut (some o)) : Kp H (Lm H0 M m) H' (Lm H0 M' m) :=
  ⟨fun a u l h => ⟨(e a u l.1 h).1, (e a u l.1 h).2, l.2⟩, fun a xs r => e.tup dom r⟩

/-- an object of one's own is changed -/
theorem EnvOk.mut {H0 : Hp} {M0 : AS} {H : Hp} {M : AS} {σ : L2.St} {env : List Sl} (ok : EnvOk H0 M0 H M σ env) {i : Nat} {oa : Option Addr} {m m' : Bool} {d d' : D} {a : Addr} {o : HO} (e : ownAt env[i]? = some (oa, m, d)) (hs : σ[i]? = some (some (.ref a))) (hm : M a) (h0 : H0 a = none)
    (ho : Mut (some o)) (hn : Ob (upd H a o) (Lm H0 M m') a d') (hoa : ∀ b, oa = some b → b = a) : EnvOk H0 M0 (upd H a o) M σ (env.set i (reow oa m' d')) ∧ Evo H M (upd H a o) M := by
  obtain ⟨o1, q1, t1⟩ := ok.dom a hm
  have evo : Evo H M (upd H a o) M := fun b u nm h => ⟨by rw [upd_ne (fun z => nm (by rw [z]; exact hm))]; exact h, nm⟩
  have hi : i < env.length := by
    cases q : env[i]? with
    | none => rw [q] at e; cases e
    | some s => exact (List.getElem?_eq_some_iff.mp q).1
  refine ⟨⟨by rw [List.length_set]; exact ok.len, fun b u h => ?_, ok.m0, fun b q => ?_, fun j s ej => ?_, fun j l b e1 e2 s1 s2 => ?_⟩, evo⟩
  · rw [upd_ne (ne_of_none h h0)]
    exact ok.same b u h
  · by_cases hb : b = a
    · subst hb; exact ⟨o, upd_same, ho⟩
    · rw [upd_ne hb]; exact ok.dom b q
  · have kp : ∀ {m : Bool}, Kp H (Lm H0 M m) (upd H a o) (Lm H0 M m) := fun {m} => evo.kp ok.dom
    by_cases hj : i = j
    · subst hj
      rw [List.getElem?_set_self hi] at ej
      cases ej
      exact .reow hs hm h0 hn hoa
    · rw [List.getElem?_set_ne hj] at ej
      have h := ok.sl j s ej
      have other : ∀ b, (ownAt env[j]?).isSome = true → σ[j]? = some (some (.ref b)) → b ≠ a := fun b oj q z => hj (ok.dis i j a (by rw [e]; rfl) oj hs (by rw [q, z]))
      cases s with
      | no => trivial
      | pt v => exact h
      | kn v m1 d1 => exact ⟨h.1, kp.dt h.2⟩
      | fr m1 d1 =>
        obtain ⟨v, q, t⟩ := h
        exact ⟨v, q, kp.dt t⟩
      | ow m1 d1 =>
        obtain ⟨b, q, x, y, t⟩ := h
        exact ⟨b, q, x, y, t.go (upd_ne (other b (by rw [ej]; rfl) q)) (kp (m := m1)).1 (kp (m := m1)).2⟩
      | ko b m1 d1 =>
        obtain ⟨q, x, y, t⟩ := h
        exact ⟨q, x, y, t.go (upd_ne (other b (by rw [ej]; rfl) q)) (kp (m := m1)).1 (kp (m := m1)).2⟩
  · have key : ∀ {j : Nat}, (ownAt (env.set i (reow oa m' d'))[j]?).isSome = true → (ownAt env[j]?).isSome = true := fun {j} ej => by
      by_cases hj : i = j
      · subst hj; rw [e]; rfl
      · rwa [List.getElem?_set_ne hj] at ej
    exact ok.dis j l b (key e1) (key e2) s1 s2
/-- it is changed no more -/
theorem EnvOk.freeze {H0 : Hp} {M0 : AS} {H : Hp} {M : AS} {σ : L2.St} {env : List Sl} (ok : EnvOk H0 M0 H M σ env) {i : Nat} {m : Bool} {d : D} {a : Addr} (e : env[i]? = some (.ow m d)) (hs : σ[i]? = some (some (.ref a))) (h0 : H0 a = none) (t : Ob H (Lm H0 M m) a d) :
    EnvOk H0 M0 H (fun b => M b ∧ b ≠ a) σ (env.set i (.fr m d)) ∧ Evo H M H (fun b => M b ∧ b ≠ a) := by
  have hi := (List.getElem?_eq_some_iff.mp e).1
  have wk : ∀ {m : Bool}, ∀ b, Lm H0 M m b → Lm H0 (fun b => M b ∧ b ≠ a) m b := fun {m} b l => ⟨fun z => l.1 z.1, l.2⟩
  refine ⟨⟨by rw [List.length_set]; exact ok.len, ok.same, fun b q => ⟨⟨(ok.m0 b q).1, fun z => (ok.m0 b q).2 (by rw [z]; exact h0)⟩, (ok.m0 b q).2⟩, fun b q => ok.dom b q.1, fun j s ej => ?_, fun j l b e1 e2 s1 s2 => ?_⟩, fun b u nm h => ⟨h, fun z => nm z.1⟩⟩
  · by_cases hj : i = j
    · subst hj
      rw [List.getElem?_set_self hi] at ej
      cases ej
      exact ⟨_, hs, (t.wk wk).dt ⟨fun z => z.2 rfl, fun _ => h0⟩⟩
    · rw [List.getElem?_set_ne hj] at ej
      have h := ok.sl j s ej
      cases s with
      | no => trivial
      | pt v => exact h
      | kn v m1 d1 => exact ⟨h.1, h.2.wk wk⟩
      | fr m1 d1 =>
        obtain ⟨v, q, t⟩ := h
        exact ⟨v, q, t.wk wk⟩
      | ow m1 d1 =>
        obtain ⟨b, q, x, y, t⟩ := h
        exact ⟨b, q, ⟨x, fun z => hj (ok.dis i j a (by rw [e]; rfl) (by rw [ej]; rfl) hs (by rw [q, z]))⟩, y, t.wk wk⟩
      | ko b m1 d1 =>
        obtain ⟨q, x, y, t⟩ := h
        exact ⟨q, ⟨x, fun z => hj (ok.dis i j a (by rw [e]; rfl) (by rw [ej]; rfl) hs (by rw [q, z]))⟩, y, t.wk wk⟩
  · have key : ∀ {j : Nat}, (ownAt (env.set i (.fr m d))[j]?).isSome = true → (ownAt env[j]?).isSome = true := fun {j} ej => by
      by_cases hj : i = j
      · subst hj; rw [List.getElem?_set_self hi] at ej; cases ej
      · rwa [List.getElem?_set_ne hj] at ej
    exact ok.dis j l b (key e1) (key e2) s1 s2
/-- a new list of one's own -/
theorem EnvOk.take {H0 : Hp} {M0 : AS} {H H1 : Hp} {M : AS} {σ : L2.St} {env : List Sl} (ok : EnvOk H0 M0 H M σ env) {i : Nat} {m : Bool} {d : D} {a : Addr} (hi : i < env.length) (s : Same H H1) (ha : H a = none) (t : Ob H1 (fun b => Lm H0 M m b ∧ b ≠ a) a d) :
    EnvOk H0 M0 H1 (fun b => M b ∨ b = a) (σ.set i (some (.ref a))) (env.set i (.ow m d)) ∧ Evo H M H1 (fun b => M b ∨ b = a) := by
  have k := ok.add ha s t.there
  have f := ok.fresh ha
  have hsi : i < σ.length := by rw [ok.len]; exact hi
  have old : ∀ {j : Nat} {b : Addr}, (ownAt env[j]?).isSome = true → σ[j]? = some (some (.ref b)) → b ≠ a := fun {j b} e q z => by
    cases ej : env[j]? with
    | none => rw [ej] at e; cases e
    | some s =>
      rw [ej] at e
      obtain ⟨p, hp⟩ := Option.isSome_iff_exists.mp e
      obtain ⟨c, q', x, _, _⟩ := (ok.sl j _ ej).own (oa := p.1) (m := p.2.1) (d := p.2.2) hp
      rw [q] at q'
      cases q'
      exact f.1 (by rw [← z]; exact x)
  refine ⟨⟨by rw [List.length_set, List.length_set]; exact k.len, k.same, k.m0, k.dom, fun j s' ej => ?_, fun j l b e1 e2 s1 s2 => ?_⟩, fun b u nm h => ⟨s b u h, fun z => z.elim nm fun z => by rw [z, ha] at h; cases h⟩⟩
  · by_cases hj : i = j
    · subst hj
      rw [List.getElem?_set_self hi] at ej
      cases ej
      exact ⟨a, List.getElem?_set_self hsi, .inr rfl, f.2, t.wk fun b q => ⟨fun z => z.elim q.1.1 q.2, q.1.2⟩⟩
    · rw [List.getElem?_set_ne hj] at ej
      have h := k.sl j s' ej
      rw [List.getElem?_set_ne hj]
      exact h
  · by_cases hj : i = j
    · subst hj
      rw [List.getElem?_set_self hsi] at s1
      cases s1
      by_cases hl : i = l
      · exact hl
      · rw [List.getElem?_set_ne hl] at e2 s2
        exact absurd rfl (old e2 s2)
    · rw [List.getElem?_set_ne hj] at e1 s1
      by_cases hl : i = l
      · subst hl
        rw [List.getElem?_set_self hsi] at s2
        cases s2
        exact absurd rfl (old e1 s1)
      · rw [List.getElem?_set_ne hl] at e2 s2
        exact ok.dis j l b e1 e2 s1 s2

/-! ### what is wanted behind a statement -/
section
variable (E : XK) (mg : Str → Option Value)
def Sp (D : Ends) (H0 : Hp) (M0 : AS) (H : Hp) (M : AS) : Fl → Prop
  | .bad => False
  | .err x => ∀ C H', mg x = some (.ref C) → Same H0 H' → E (.ref C) none H'
  | .next e => ∀ σ' H' M', EnvOk H0 M0 H' M' σ' e → Evo H M H' M' → D.nx σ' H'
  | .ret r => ∀ v H' M', Same H0 H' → (∀ a, M0 a → M' a) → RvOk H0 M' H0 H' v r → D.rt v H'
  | .brk e => ∀ σ' H' M', EnvOk H0 M0 H' M' σ' e → Evo H M H' M' → D.bk σ' H'
  | .cnt e => ∀ σ' H' M', EnvOk H0 M0 H' M' σ' e → Evo H M H' M' → D.ct σ' H'
end
section
variable {E : XK} {mg : Str → Option Value}
theorem Sp.of {α : Type} {D : Ends} {H0 : Hp} {M0 : AS} {H : Hp} {M : AS} {r : R α} {f : α → Fl} {σ : L2.St} {env : List Sl} {H2 : Hp} {M2 : AS} (ok : EnvOk H0 M0 H2 M2 σ env) (h : Sp E mg D H0 M0 H M (.of r f)) : Rp E mg H2 r fun a => Sp E mg D H0 M0 H M (f a) := by
  cases r with
  | bad => exact h
  | err x => exact fun C H' q s => h C H' q (ok.same.trans s)
  | ok a => exact h
end
section
variable (Γ : FT) (fuel : Nat) (E : XK) (mg : Str → Option Value)
def tS (m : MS) : TS := fun D σ H => ∃ H0 M0 M env, EnvOk H0 M0 H M σ env ∧ Sp E mg D H0 M0 H M (evS Γ fuel m env)
def tSs (m : MSs) : TS := fun D σ H => ∃ H0 M0 M env, EnvOk H0 M0 H M σ env ∧ Sp E mg D H0 M0 H M (evSs Γ fuel m env)
end
structure OkS (X : Cx) (Γ : FT) (E : XK) (k : Nat) (ex : Ex) : Prop where
  ok : Ok X Γ E k
  fn : ∀ x, X.fn x = true
  kind : X.env.scope.kind = .function
  own : PassesOwn (model X.prog X.w) X.A X.env X.xe
  rz : ∀ (x m : Str) (j : Nat) (p p2 p3 pos : Pos), x ∈ ex.rz → Gl X x → PS X (.Raise (some (.Call (.Name x p) [.Constant (.str m) j p2] [] p3)) none pos) (fun _ _ H => ∀ C, X.mg x = some (.ref C) → E (.ref C) none H)
  stk : X.stack = X.env :: X.outer
  frm : X.env.frame = some X.env.locals
  cl : ∀ T, T ∈ ex.cl → ∃ cT, X.mg T = some (.ref cT)
  xf : ∀ x, x ∈ ex.xs → ∀ C, X.mg x = some (.ref C) → XFact ex X.mg X.prog X.w X.K X.base x C
theorem OkS.fnIn {X : Cx} {Γ : FT} {E : XK} {k : Nat} {ex : Ex} (o : OkS X Γ E k ex) : FnIn X X.env.scope := fun x => ⟨fun h => h, fun h => ⟨h, o.fn x⟩⟩
end En

set_option Elab.async false
set_option linter.all false
set_option maxRecDepth 100000
set_option maxHeartbeats 8000000
namespace En
open PySem PySem.Spec PyProof.Rows L2

theorem put1_ok {E : XK} {mg : Str → Option Value} {D : Ends} {H0 : Hp} {M0 : AS} {H H1 : Hp} {M : AS} {σ : L2.St} {env : List Sl} {own : Bool} {i : Nat} {r : Rv} {v : V} (ok : EnvOk H0 M0 H M σ env) (s : Same H H1) (rv : RvOk H0 M H H1 v r)
    (h : Sp E mg D H0 M0 H M (put1 own i env r)) : D.nx (σ.set i (some v)) H1 := by
  have fr : ∀ {m : Bool} {d : En.D}, Dt H1 (Lm H0 M m) v d → Sp E mg D H0 M0 H M (setSl env i (.fr m d)) → D.nx (σ.set i (some v)) H1 := fun {m d} t h => by
    unfold setSl at h
    split at h
    · rename_i hi
      exact h _ H1 M ((ok.up s).set_fr t hi) (Evo.post s)
    · exact h.elim
  cases r with
  | fr m d =>
    simp only [put1] at h
    split at h
    · exact h.elim
    · exact fr rv h
  | ow m d =>
    simp only [put1] at h
    split at h
    · unfold setSl at h
      split at h
      · rename_i hi
        obtain ⟨a, rfl, ha, _, _, t⟩ := rv
        obtain ⟨k, e⟩ := ok.take hi s ha t
        exact h _ H1 _ k e
      · exact h.elim
    · obtain ⟨a, rfl, ha, h1, h2, t⟩ := rv
      exact fr ((t.wk (L' := Lm H0 M m) fun _ q => q.1).dt ⟨h1, fun _ => h2⟩) h
  | bo m d => exact h.elim
  | mt _ _ => exact h.elim
/-- what a list of one's own gives -/
theorem own_at {H0 : Hp} {M0 : AS} {H : Hp} {M : AS} {σ : L2.St} {env : List Sl} {i : Nat} {oa : Option Addr} {m : Bool} {ds : List D} (ok : EnvOk H0 M0 H M σ env) (e : ownAt env[i]? = some (oa, m, .list ds)) :
    ∃ a xs, σ[i]? = some (some (.ref a)) ∧ M a ∧ H0 a = none ∧ H a = some (.lst xs) ∧ Dts H (Lm H0 M m) xs ds ∧ ∀ b, oa = some b → b = a := by
  cases q : env[i]? with
  | none => rw [q] at e; cases e
  | some s =>
    rw [q] at e
    obtain ⟨a, h1, h2, h3, t, h4⟩ := (ok.sl i _ q).own e
    cases t with
    | lst q s => exact ⟨a, _, h1, h2, h3, q, s, h4⟩
theorem dts_mut {H0 H : Hp} {M : AS} {m : Bool} {a : Addr} {o : HO} {xs ys : List V} {ds : List D} (hm : M a) (q : H a = some (.lst xs)) (s : Dts H (Lm H0 M m) ys ds) : Dts (upd H a o) (Lm H0 M m) ys ds :=
  dts_upd (fun z => z.1 hm) q (fun xs => ⟨fun z => (nomatch z), fun o z => (nomatch z)⟩) s
section
variable {X : Cx}
def rExtR : V → List V → Hp → VK → Prop := fun x vs H Q => ∃ l b xs zs, x = .ref l ∧ vs = [.ref b] ∧ H l = some (.lst xs) ∧ Rd H b (.lst zs) ∧ xs.length + zs.length ≤ sizeLine ∧ Q .non (upd H l (.lst (xs ++ zs)))
theorem mt_extR : MtM X "list.extend" rExtR := by
  intro pins s σ H x vs v us Q I rx rv h
  obtain ⟨l, b, xs, zs, rfl, rfl, hH, hB, hz, q⟩ := h
  cases rx
  obtain ⟨u, rfl, ru⟩ := rv.one
  cases ru
  obtain ⟨z, its, n, r, hl, e⟩ := I.lstM hH
  obtain ⟨z2, its2, n2, r2, hl2, e2⟩ := lstR I hB
  have hsz : its.toArray.size + its2.toArray.size ≤ sizeLine := by rw [List.size_toArray, List.size_toArray]; omega
  have hlong : ¬ (!its.toArray.isEmpty && Builtin.List.listTooLong (its.toArray.size + its2.toArray.size)) = true := by
    rw [notLongL hsz, Bool.and_false]
    exact Bool.false_ne_true
  refine call_meets F.slot_list_extend ⟨_, e, rfl⟩ F.entry_list_extend (F.args_list_extend_2 _ _)
    (AutoSeq1.list_extend_list_list_0 l its.toArray n b its2.toArray n2 hlong (by rw [List.size_toArray]; omega) (by omega)) ⟨e, e2, ?_⟩
  refine ⟨.non, _, I.lset (its' := its ++ its2) hH e (by simp) (r.append r2) ?_, rfl, q⟩
  rw [List.length_append]
  omega
end
theorem sw_plain {N : List Str} {sc : Scope} {m : ME} {x : Expr} {t : Option Expr} {l : Nat} {env : Env} (hx : okE N sc m x = true) (hm : isLc m = false) : swapsWith x t l env = pure false := by
  cases x with
  | ListComp a b c d => cases m <;> simp [okE, isLc] at hx hm
  | SetComp a b c d => cases m <;> simp [okE] at hx
  | DictComp a b c d e => cases m <;> simp [okE] at hx
  | _ => rfl
theorem sw_tup {x : Expr} {es : List Expr} {k : Nat} {p : Pos} {l : Nat} {env : Env} : swapsWith x (some (.Tuple es k p)) l env = pure false := by
  cases x <;> rfl
theorem sw_sub {x a b : Expr} {p : Pos} {l : Nat} {env : Env} : swapsWith x (some (.Subscript a b p)) l env = pure false := by
  cases x <;> rfl
theorem sw_store {x : Expr} {es : List Expr} {k : Nat} {p : Pos} {env : Env} (h : ownT x = false) : swappedStores [.Tuple es k p] x env = pure none := by
  cases x <;> simp [ownT] at h <;> rfl
theorem sw_par {x y : Str} {u v : Expr} {px py pt pt2 : Pos} {kt k2 : Nat} {env : Env} (hk : env.scope.kind = .function) (hx : env.scope.names.lookup x = some .local) (hy : env.scope.names.lookup y = some .local) (hxy : x ≠ y) (hl : px.line = py.line)
    (f1 : foldedForSure 8 u = false) (f2 : constantsAlone 8 u = false) (n1 : ∀ a p, u ≠ .Starred a p) (n2 : ∀ a p, v ≠ .Starred a p) : swappedStores [.Tuple [.Name x px, .Name y py] kt pt] (.Tuple [u, v] k2 pt2) env = pure (some [x, y]) := by
  have kx : env.kindOf x = some .local := hx
  have ky : env.kindOf y = some .local := hy
  have hb : env.blockKind = .function := by unfold Env.blockKind; rw [hk]; rfl
  have hu : (match u with | .Starred .. => true | _ => false) = false := by
    cases u <;> first | rfl | exact absurd rfl (n1 _ _)
  have hv : (match v with | .Starred .. => true | _ => false) = false := by
    cases v <;> first | rfl | exact absurd rfl (n2 _ _)
  have hne : (y == x) = false := by simpa using Ne.symm hxy
  have hne2 : (x == y) = false := by simpa using hxy
  unfold swappedStores
  simp [kx, ky, hb, hu, hv, f1, f2, hl, Expr.pos, List.eraseDups, List.eraseDupsBy, List.eraseDupsBy.loop, hne, hne2]
theorem sw_store_sub {x a b : Expr} {p : Pos} {env : Env} : swappedStores [.Subscript a b p] x env = pure none := by
  cases x <;> rfl
section
variable {Γ : FT} {k fuel : Nat} {ex : Ex}
/-- a comprehension given to a name -/
theorem set_lc {X : Cx} {E : XK} {i : Nat} {e : ME} {x : Str} {p pos : Pos} {v : Expr} (o : OkS X Γ E k ex) (h1 : tgOk X.N X.env.scope i (.Name x p) = true) (h2 : okE X.N X.env.scope e v = true) :
    PS X (.Assign [.Name x p] v pos) (tAsg (tE Γ E X.mg e) (gName i)) := by
  have pv := (sE e v o.ok h2).1
  simp only [tgOk, Bool.and_eq_true, decide_eq_true_eq] at h1
  obtain ⟨hN, hk⟩ := h1
  have hloc : Loc X.env.scope x := by
    unfold kL at hk
    split at hk
    · rename_i q; exact .inl q
    · rename_i q; exact .inr q
    · cases hk
  have plain : swapsWith v (some (.Name x p)) pos.line X.env = pure false → PS X (.Assign [.Name x p] v pos) (tAsg (tE Γ E X.mg e) (gName i)) := fun sw => ps_set o.ok.nd hN hloc pv sw (.inl (o.fn x))
  by_cases hm : isLc e = true
  · cases e <;> simp [isLc] at hm
    rename_i g it c elt
    simp only [okE] at h2
    split at h2
    · rename_i x' tg iter ifs scope pos'
      simp only [Bool.and_eq_true] at h2
      obtain ⟨⟨⟨⟨g1, g2⟩, g3⟩, g4⟩, g5⟩ := h2
      have sw : ∃ b, swapsWith (.ListComp x' [⟨tg, iter, ifs, 0⟩] scope pos') (some (.Name x p)) pos.line X.env = pure b ∧ (b = true → X.env.kindOf x = some .local) := by
        refine ⟨X.env.blockKind == .function && X.env.kindOf x == some .local && p.line == pos'.line && !(scope.names.any fun (n, k) => n == x && (k == .local || k == .cell)), rfl, fun z => ?_⟩
        simp only [Bool.and_eq_true] at z
        exact eq_of_beq z.1.1.2
      obtain ⟨b, sw, hb⟩ := sw
      cases b with
      | false => exact plain sw
      | true =>
        have hown : (ownOf X.N g).map (·.2) = idx g := by
          unfold ownOf
          rw [List.map_map]
          exact List.map_id'' (fun _ => rfl) _
        have P := ps_setLc (te := tE Γ (fun _ _ _ => False) X.mg elt) (tt := tC Γ (fun _ _ _ => False) X.mg c) (g := gOf X g) (pos := pos') o.ok.calm o.ok.nd hN (hb rfl) sw (sI it tg iter o.ok g3) (blkOk_by g1)
          (fun s H C cl fp => g_ok (X := X.blk s H scope (compEnvC scope cl C X.env) fp) o.ok.nd o.ok.calm fnIn_blk g2)
          (fun s H C cl fp => sC c ifs (ok_blk o.ok) g4) (fun s H C cl fp => (sE elt x' (ok_blk o.ok) g5).1) (no_setI g3)
        rw [hown] at P
        exact P.imp fun D σ H h => lc_imp σ H _ h
    · cases h2
  · exact plain (sw_plain h2 (by simpa using hm))
end
end En

set_option Elab.async false
set_option linter.all false
set_option maxRecDepth 100000
set_option maxHeartbeats 8000000
namespace En
open PySem PySem.Spec PyProof.Rows L2

/-! ### try: calls; except: what is caught -/
theorem EnvOk.setNo {H0 : Hp} {M0 : AS} {H : Hp} {M : AS} {σ : L2.St} {env : List Sl} (ok : EnvOk H0 M0 H M σ env) (n : Nat) (o : Option V) : EnvOk H0 M0 H M (σ.set n o) (env.set n .no) := by
  have key : ∀ {j : Nat}, (ownAt (env.set n .no)[j]?).isSome = true → (ownAt env[j]?).isSome = true ∧ n ≠ j := fun {j} ej => by
    by_cases hj : n = j
    · subst hj
      by_cases hl : n < env.length
      · rw [List.getElem?_set_self hl] at ej; cases ej
      · rw [List.getElem?_eq_none (by rw [List.length_set]; omega)] at ej; cases ej
    · rw [List.getElem?_set_ne hj] at ej; exact ⟨ej, hj⟩
  refine ⟨by rw [List.length_set, List.length_set]; exact ok.len, ok.same, ok.m0, ok.dom, fun j s ej => ?_, fun i j a e1 e2 s1 s2 => ?_⟩
  · by_cases hj : n = j
    · subst hj
      by_cases hl : n < env.length
      · rw [List.getElem?_set_self hl] at ej; cases ej; trivial
      · rw [List.getElem?_eq_none (by rw [List.length_set]; omega)] at ej; cases ej
    · rw [List.getElem?_set_ne hj] at ej ⊢
      exact ok.sl j s ej
  · obtain ⟨f1, n1⟩ := key e1
    obtain ⟨f2, n2⟩ := key e2
    rw [List.getElem?_set_ne n1] at s1
    rw [List.getElem?_set_ne n2] at s2
    exact ok.dis i j a f1 f2 s1 s2
/-- a list of one's own gets another name -/
theorem EnvOk.move {H0 : Hp} {M0 : AS} {H : Hp} {M : AS} {σ : L2.St} {env : List Sl} (ok : EnvOk H0 M0 H M σ env) {i j : Nat} {m : Bool} {d : En.D} {v : V} (e : env[j]? = some (.ow m d)) (hv : σ[j]? = some (some v)) (hi : i < env.length) (hij : i ≠ j) : EnvOk H0 M0 H M (σ.set i (some v)) ((env.set i (.ow m d)).set j .no) := by
  have hsi : i < σ.length := by rw [ok.len]; exact hi
  have hj := (List.getElem?_eq_some_iff.mp e).1
  have oj : (ownAt env[j]?).isSome = true := by rw [e]; rfl
  have key : ∀ {l : Nat}, (ownAt ((env.set i (.ow m d)).set j .no)[l]?).isSome = true → l = i ∨ (l ≠ i ∧ l ≠ j ∧ (ownAt env[l]?).isSome = true) := fun {l} el => by
    by_cases hl : j = l
    · subst hl
      rw [List.getElem?_set_self (by rw [List.length_set]; exact hj)] at el; cases el
    · rw [List.getElem?_set_ne hl] at el
      by_cases hil : i = l
      · subst hil
        exact .inl rfl
      · rw [List.getElem?_set_ne hil] at el; exact .inr ⟨Ne.symm hil, Ne.symm hl, el⟩
  refine ⟨by rw [List.length_set, List.length_set, List.length_set]; exact ok.len, ok.same, ok.m0, ok.dom, fun l s el => ?_, fun l l' a e1 e2 s1 s2 => ?_⟩
  · by_cases hl : j = l
    · subst hl
      rw [List.getElem?_set_self (by rw [List.length_set]; exact hj)] at el; cases el; trivial
    · rw [List.getElem?_set_ne hl] at el
      by_cases hil : i = l
      · subst hil
        rw [List.getElem?_set_self hi] at el; cases el
        obtain ⟨a, q, r⟩ := ok.sl j _ e
        rw [hv] at q
        cases q
        exact ⟨a, List.getElem?_set_self hsi, r⟩
      · rw [List.getElem?_set_ne hil] at el ⊢
        exact ok.sl l s el
  · rcases key e1 with rfl | ⟨a1, a2, a3⟩
    · rcases key e2 with rfl | ⟨b1, b2, b3⟩
      · rfl
      · rw [List.getElem?_set_self hsi] at s1
        cases s1
        rw [List.getElem?_set_ne (Ne.symm b1)] at s2
        exact absurd (ok.dis j l' a oj b3 hv s2) (Ne.symm b2)
    · rcases key e2 with rfl | ⟨b1, b2, b3⟩
      · rw [List.getElem?_set_self hsi] at s2
        cases s2
        rw [List.getElem?_set_ne (Ne.symm a1)] at s1
        exact absurd (ok.dis j l a oj a3 hv s1) (Ne.symm a2)
      · rw [List.getElem?_set_ne (Ne.symm a1)] at s1
        rw [List.getElem?_set_ne (Ne.symm b1)] at s2
        exact ok.dis l l' a a3 b3 s1 s2
theorem setZ_ok {H0 : Hp} {M0 : AS} {H : Hp} {M : AS} : ∀ (l : List (Nat × Str)) {σ : L2.St} {env : List Sl}, EnvOk H0 M0 H M σ env → EnvOk H0 M0 H M (setV l σ) (setZ l env)
  | [], _, _, ok => ok
  | p :: l, σ, env, ok => by
    refine setZ_ok l ?_
    by_cases hi : p.1 < env.length
    · exact ok.set_fr (.str _) hi
    · have h1 : env.set p.1 (.fr false (.str p.2)) = env := List.set_eq_of_length_le (by omega)
      have h2 : σ.set p.1 (some (.str p.2)) = σ := List.set_eq_of_length_le (by have := ok.len; omega)
      rw [h1, h2]
      exact ok
def FW : XK := fun _ _ _ => False
theorem noErr_of {α : Type} {H : Hp} {r : R α} {k : α → Prop} {E E' : XK} {mg : Str → Option Value} (h : Rp E mg H (noErr r) k) : Rp E' mg H r k := by
  cases r with
  | ok a => exact h
  | err x => exact h.elim
  | bad => exact h
theorem noErr_bind {α β : Type} {H : Hp} {r : R α} {f : α → R β} {k : β → Prop} {E E' : XK} {mg : Str → Option Value} (h : Rp E mg H ((noErr r).bind f) k) : Rp E' mg H r fun a => Rp E mg H (f a) k := by
  cases r with
  | ok a => exact h
  | err x => exact h.elim
  | bad => exact h
section
variable {Γ : FT} {k fuel : Nat}
/-- a call, what it raises with the slots as they stand -/
theorem cR_ok {Y : Cx} (ok : Ok Y Γ FW k) {W : WX} (tk : Takes Y W) (f : Str) (ms : MEs) (e : Expr) (h : okE Y.N Y.env.scope (.call f ms) e = true) :
    PE Y e (fun σ H Q => ∃ H0 M0 M env, EnvOk H0 M0 H M σ env ∧ Rp (WE W σ) Y.mg H (callR Γ env f ms) fun r => ∀ v H', Same H H' → RvOk H0 M H H' v r → Q v H') := by
  simp only [okE] at h
  split at h
  · simp only [Bool.and_eq_true, decide_eq_true_eq] at h
    obtain ⟨⟨rfl, h1⟩, h3⟩ := h
    have sa := (sEs ms _ ok h3).1
    have hst : ∀ x es, okEs Y.N Y.env.scope ms (x :: es) = true → starEach (x :: es) Y.env = (false, eval x Y.env) :: starEach es Y.env ∧ ∀ pos, (backTo pos (starEach es Y.env)).any (·.1) = false := fun x es hh => by
      cases ms with
      | nil => simp [okEs] at hh
      | cons m ms' =>
        simp only [okEs, Bool.and_eq_true] at hh
        exact ⟨star_cons hh.1 es _, fun pos => back_any pos _ (star_none hh.2)⟩
    cases hΓ : Γ f with
    | none =>
      refine ⟨fun pins s σ H Q I ⟨H0, M0, M, env, eo, q⟩ => ?_⟩
      simp only [callR, hΓ] at q
      exact q.elim
    | some p =>
      obtain ⟨n, g⟩ := p
      obtain ⟨fa, fd, ps, F, mf, kf, bf⟩ := ok.fns f n g hΓ
      refine (pe_callS (E := WE W) F (ok.room.mono (by omega)) (gl_of h1).1 mf kf bf (fun σ => passAt tk σ) sa (gl_of h1).2 (hst _ _ h3).1 ((hst _ _ h3).2 _)).imp fun σ H Q ⟨H0, M0, M, env, eo, q⟩ => by
        simp only [callR, hΓ] at q
        refine ⟨H0, M0, M, env, eo, (noErr_bind q).imp fun rs _ q vs H1 s1 rv => ?_⟩
        split at q
        · rename_i hn
          obtain ⟨Mc, m1, m2, ds⟩ := args_ok (eo.up s1) rv
          refine ⟨by rw [rv.length]; exact hn, Mc, _, fun a ha => (eo.up s1).dom a (m1 a ha), ds, ((Rp.bind q).same s1).imp fun r _ q => ?_⟩
          cases e : ans (rs.any isBo) r with
          | bad => rw [e] at q; exact q.elim
          | err x => exact absurd e (ans_ne _ _ _)
          | ok r' =>
            rw [e] at q
            exact .mk (fun v H2 s2 rv2 => q v H2 (s1.trans s2) (rv2.ans (eo.up s1) s1 m2 e)) fun mask news z => by subst z; simp [ans] at e
        · exact q.elim
  · cases h
def SpT (W : WX) (mg : Str → Option Value) (Dn : Ends) (H0 : Hp) (M0 : AS) (H : Hp) (M : AS) (σ : L2.St) : Fl → Prop
  | .next e => ∀ σ' H' M', EnvOk H0 M0 H' M' σ' e → Evo H M H' M' → Dn.nx σ' H'
  | .err x => ∀ C H', mg x = some (.ref C) → Same H H' → W (.ref C) none σ H'
  | _ => False
theorem SpT.of {α : Type} {W : WX} {mg : Str → Option Value} {Dn : Ends} {H0 : Hp} {M0 : AS} {H : Hp} {M : AS} {σ : L2.St} {r : R α} {f : α → Fl} (h : SpT W mg Dn H0 M0 H M σ (.of r f)) : Rp (WE W σ) mg H r fun a => SpT W mg Dn H0 M0 H M σ (f a) := by
  cases r with
  | bad => exact h
  | err x => exact h
  | ok a => exact h
theorem put1_T {W : WX} {mg : Str → Option Value} {Dn : Ends} {H0 : Hp} {M0 : AS} {H H1 : Hp} {M : AS} {σ : L2.St} {env : List Sl} {own : Bool} {i : Nat} {r : Rv} {v : V} (ok : EnvOk H0 M0 H M σ env) (s : Same H H1) (rv : RvOk H0 M H H1 v r)
    (h : SpT W mg Dn H0 M0 H M σ (put1 own i env r)) : Dn.nx (σ.set i (some v)) H1 := by
  refine put1_ok (E := FW) (mg := mg) (D := Dn) (own := own) (i := i) ok s rv ?_
  cases e : put1 own i env r with
  | next e' => rw [e] at h; exact h
  | bad => rw [e] at h; exact h
  | err x =>
    exfalso
    revert e
    unfold put1 setSl
    cases r <;> (repeat' split) <;> simp
  | ret _ => rw [e] at h; exact h.elim
  | brk _ => rw [e] at h; exact h.elim
  | cnt _ => rw [e] at h; exact h.elim
theorem t_ok {Y : Cx} (ok : Ok Y Γ FW k) (fn : ∀ x, Y.fn x = true) {W : WX} (tk : Takes Y W) : ∀ (b : TB) (s : Stmt), okT Y.N Y.env.scope b s = true →
    PS Y s (fun Dn σ H => ∃ H0 M0 M env, EnvOk H0 M0 H M σ env ∧ SpT W Y.mg Dn H0 M0 H M σ (evT Γ b env))
  | .ex f es, s, h => by
    simp only [okT] at h
    split at h
    · refine (ps_expr (cR_ok ok tk f es _ h) (sw_plain h rfl)).imp fun Dn σ H ⟨H0, M0, M, env, eo, q⟩ => ?_
      simp only [evT] at q
      exact ⟨H0, M0, M, env, eo, (SpT.of q).imp fun r _ q v H1 s1 rv => q σ H1 M (eo.up s1) (Evo.post s1)⟩
    · cases h
  | .st i own f es, s, h => by
    simp only [okT] at h
    split at h
    · simp only [Bool.and_eq_true] at h
      obtain ⟨w1, w2⟩ := tg_loc h.1
      refine (ps_set ok.nd w1 w2 (cR_ok ok tk f es _ h.2) (sw_plain h.2 rfl) (.inl (fn _))).imp fun Dn σ H ⟨H0, M0, M, env, eo, q⟩ => ?_
      simp only [evT] at q
      exact ⟨H0, M0, M, env, eo, (SpT.of q).imp fun r _ q v H1 s1 rv => put1_T eo s1 rv q⟩
    · cases h
  | .if_ c a b, s, h => by
    simp only [okT] at h
    split at h
    · simp only [Bool.and_eq_true] at h
      obtain ⟨⟨h1, h2⟩, h3⟩ := h
      refine (ps_if (sE c _ ok h1).2 (pss_cons (t_ok ok fn tk a _ h2) pss_nil) (pss_cons (t_ok ok fn tk b _ h3) pss_nil)).imp fun Dn σ H ⟨H0, M0, M, env, eo, q⟩ => ?_
      simp only [evT] at q
      refine ⟨H0, M0, M, env, eo, (noErr_of (SpT.of q)).imp fun t _ q H1 s1 => ?_⟩
      have go : ∀ {f : Fl}, SpT W Y.mg Dn H0 M0 H M σ f → SpT W Y.mg Dn H0 M0 H1 M σ f := fun {f} q => by
        cases f with
        | next e => exact fun σ' H' M' k' e' => q σ' H' M' k' (Evo.pre s1 e')
        | err x => exact fun C H' hC sm => q C H' hC (s1.trans sm)
        | _ => exact q
      cases t with
      | true => exact ⟨H0, M0, M, env, eo.up s1, go q⟩
      | false => exact ⟨H0, M0, M, env, eo.up s1, go q⟩
    · cases h
theorem lookup_mem {β : Type} {x : Str} {l : β} : ∀ {tb : List (Str × β)}, tb.lookup x = some l → (x, l) ∈ tb
  | (y, b) :: tb, h => by
    rw [List.lookup_cons] at h
    cases e : x == y with
    | true =>
      rw [e] at h
      cases h
      rw [eq_of_beq e]
      exact List.mem_cons_self
    | false =>
      rw [e] at h
      exact List.mem_cons_of_mem _ (lookup_mem h)
theorem try_ok {X : Cx} {E : XK} {ex : Ex} (o : OkS X Γ E k ex) {b : TB} {tb : List (Str × List (Nat × Str))} {n : Nat} {sx : List XSt} {s : Stmt} (h : okTry ex X.N X.env.scope b tb n sx s = true) :
    PS X s (fun Dn σ H => ∃ H0 M0 M env, EnvOk H0 M0 H M σ env ∧ Sp E X.mg Dn H0 M0 H M (tryR tb n env (evT Γ b env))) := by
  unfold okTry at h
  split at h
  · rename_i sb T np nm s0 ss hp pos
    simp only [Bool.and_eq_true, decide_eq_true_eq] at h
    obtain ⟨⟨⟨⟨⟨⟨h1, h2⟩, h3⟩, h4⟩, h5⟩, h6⟩, h7⟩ := h
    obtain ⟨cT, hT⟩ := o.cl T h6
    have suite : ∀ (a : Addr) (oe : Obj) (cls : Value) (d : Option Addr) (pn : List (Addr × Obj)), Zc cls d oe → (∃ vs, oe.data = .fields vs) → PSs (X.suite a ((a, oe) :: pn)) (s0 :: ss)
        (fun Dn σ H1 => ∃ x C l, x ∈ ex.xs ∧ cls = .ref C ∧ d = none ∧ X.mg x = some (.ref C) ∧ σ[n]? = some (some (.ref a)) ∧ evX (ex.val x) (ex.wd x) sx = some l ∧ ∀ H', Same H1 H' → Dn.nx (setV l σ) H') := fun a oe cls d pn hz hf => ⟨fun pins s' σ H' Dn I ⟨x, C, l, hx, e1, e2, hm, hn, hl, q⟩ => by
      subst e1 e2
      have F := o.xf x hx C hm
      have hrm := o.ok.room.mono (show 1 ≤ k + 2 by omega)
      exact PSs.run (x_ok (X := X.suite a ((a, oe) :: pn)) (D := C) (oe := oe) (a := a) (n := n) (val := ex.val x) (wd := ex.wd x) (o.ok.blt _ (by decide)) F.c List.mem_cons_self hz hf F.v ⟨hrm.dp, hrm.un⟩ (fun f z e => F.w f z e) o.ok.nd o.fn sx (s0 :: ss) h2) pins s' σ H' Dn I ⟨hn, l, hl, q⟩⟩
    have body : ∀ (W : WX) (pn : List (Addr × Obj)) (xe : Value → Shared → Prop), Takes (X.tr pn xe) W → PassesOwn (model X.prog X.w) X.A X.env xe → PSs (X.tr pn xe) [sb] (fun Dn σ H => ∃ H0 M0 M env, EnvOk H0 M0 H M σ env ∧ SpT W X.mg Dn H0 M0 H M σ (evT Γ b env)) :=
      fun W pn xe tkW po => (pss_cons (t_ok (Y := X.tr pn xe) ⟨o.ok.calm, o.ok.nd, o.ok.hu, o.ok.room, takes0, o.ok.blt, o.ok.fns⟩ o.fn tkW b sb h1) pss_nil).imp fun Dn σ H ⟨H0, M0, M, env, eo, q⟩ => ⟨H0, M0, M, env, eo, q⟩
    refine (ps_try_as (Wout := fun c d _ H => E c d H) o.stk o.frm o.ok.nd h3 (show X.env.kindOf nm = some .local from h4) ⟨(gl_of h5).1, (gl_of h5).2, .inl hT⟩ o.ok.tk body suite).imp fun Dn σ H ⟨H0, M0, M, env, eo, q⟩ => ?_
    refine ⟨H0, M0, M, env, eo, ?_⟩
    cases e : evT Γ b env with
    | next e' => rw [e] at q; exact q
    | err x =>
      rw [e] at q
      simp only [tryR] at q
      cases el : tb.lookup x with
      | none => rw [el] at q; exact q.elim
      | some l =>
        rw [el] at q
        simp only at q
        split at q
        case isFalse => exact q.elim
        rename_i hnl
        have hq := List.all_eq_true.mp h7 _ (lookup_mem el)
        simp only [Bool.and_eq_true, decide_eq_true_eq] at hq
        obtain ⟨⟨q1, q2⟩, q3⟩ := hq
        intro C H1 hC sm
        have F := o.xf x q1 C hC
        refine ⟨true, F.t T true q2 cT hT, fun _ a ha => ⟨x, C, l, q1, rfl, rfl, hC, ?_, q3, fun H2 sm2 => ?_⟩, fun z => nomatch z⟩
        · exact List.getElem?_set_self (by rw [eo.len]; exact hnl)
        · exact q _ H2 M (((setZ_ok l (((eo.up sm).up sm2).setNo n (some (.ref a))))).setNo n none) (Evo.post (sm.trans sm2))
    | bad => rw [e] at q; exact q.elim
    | ret _ => rw [e] at q; exact q.elim
    | brk _ => rw [e] at q; exact q.elim
    | cnt _ => rw [e] at q; exact q.elim
  · cases h
end
end En

set_option Elab.async false
set_option linter.all false
set_option maxRecDepth 100000
set_option maxHeartbeats 8000000
namespace En
open PySem PySem.Spec PyProof.Rows L2

/-! ### a def that changes what it is given: the call -/
section
variable (Γ : FT) (E : XK) (mg : Str → Option Value)
def tE' (m : ME) : TE := fun σ H Q => ∃ H0 M0 M env, EnvOk H0 M0 H M σ env ∧ Rp E mg H (evE Γ env m) fun r => ∀ v H', Same H H' → RvOk H0 M H H' v r → (∀ j, m = .v j → ∀ w, σ[j]? = some (some w) → v = w) → Q v H'
def tMs (ms : MEs) : TA := fun σ H Q => ∃ H0 M0 M env, EnvOk H0 M0 H M σ env ∧ Rp E mg H (evEs Γ env ms) fun rs => ∀ vs H', Same H H' → RvOks H0 M H H' vs rs → (∀ p j, nth? ms p = some (.v j) → ∀ v, σ[j]? = some (some v) → vs[p]? = some v) → Q vs H'
end
section
variable {Γ : FT} {k : Nat}
theorem sE' {X : Cx} {E : XK} (m : ME) (e : Expr) (ok : Ok X Γ E k) (h : okE X.N X.env.scope m e = true) : PE X e (tE' Γ E X.mg m) := by
  by_cases hv : ∃ i, m = .v i
  · obtain ⟨i, rfl⟩ := hv
    simp only [okE] at h
    split at h
    · refine (pe_v h).imp fun σ H Q ⟨H0, M0, M, env, eo, q⟩ => ?_
      have fin : ∀ {v w : V}, σ[i]? = some (some v) → ∀ j, ME.v i = .v j → σ[j]? = some (some w) → v = w := fun {v w} e1 j z e2 => by
        cases z
        rw [e1] at e2
        cases e2
        rfl
      simp only [evE, getSl] at q
      split at q
      · rename_i m d e1
        obtain ⟨v, e2, t⟩ := eo.sl i _ e1
        exact ⟨v, e2, q v H (Same.refl _) t fun j z w e3 => fin e2 j z e3⟩
      · rename_i m d e1
        obtain ⟨a, e2, _, _, t⟩ := eo.sl i _ e1
        exact ⟨_, e2, q _ H (Same.refl _) t.cn fun j z w e3 => fin e2 j z e3⟩
      · rename_i v m d e1
        obtain ⟨e2, t⟩ := eo.sl i _ e1
        exact ⟨v, e2, q v H (Same.refl _) t fun j z w e3 => fin e2 j z e3⟩
      · rename_i a m d e1
        obtain ⟨e2, _, _, t⟩ := eo.sl i _ e1
        exact ⟨_, e2, q _ H (Same.refl _) t.cn fun j z w e3 => fin e2 j z e3⟩
      · exact q.elim
    · cases h
  · exact (sE m e ok h).1.imp fun σ H Q ⟨H0, M0, M, env, eo, q⟩ => ⟨H0, M0, M, env, eo, q.imp fun r _ q v H' s rv => q v H' s rv fun j z => absurd ⟨j, z⟩ hv⟩
theorem sMs {X : Cx} {E : XK} (ok : Ok X Γ E k) : ∀ (ms : MEs) (es : List Expr), okEs X.N X.env.scope ms es = true → PA X es (tMs Γ E X.mg ms)
  | .nil, es, h => by
    simp only [okEs] at h
    split at h
    · exact pa_nil.imp fun σ H Q ⟨H0, M0, M, env, eo, q⟩ => q [] H (Same.refl _) .nil fun p j z => by cases p <;> simp [nth?] at z
    · cases h
  | .cons m ms, es, h => by
    simp only [okEs] at h
    split at h
    · rename_i e r
      simp only [Bool.and_eq_true] at h
      obtain ⟨h1, h2⟩ := h
      refine (pa_cons (sE' m e ok h1) (sMs ok ms r h2) (star_cons h1 _ _)).imp fun σ H Q ⟨H0, M0, M, env, eo, q⟩ => ?_
      simp only [evEs] at q
      refine ⟨H0, M0, M, env, eo, (Rp.bind q).imp fun x _ q v H1 s1 rv w1 => ⟨H0, M0, M, env, eo.up s1, ((Rp.bind q).same s1).imp fun xs _ q vs H2 s2 rvs w2 => q _ H2 (s1.trans s2) (.cons (rv.same s2) (rvs.back s1)) fun p j z u e2 => ?_⟩⟩
      cases p with
      | zero =>
        simp only [nth?, Option.some.injEq] at z
        rw [w1 j z u e2]
        rfl
      | succ p => exact w2 p j z u e2
    · cases h
end
/-- the state behind a change of what is one's own -/
theorem EnvOk.chg {H0 : Hp} {M0 : AS} {H H' : Hp} {M : AS} {σ : L2.St} {env env' : List Sl} (ok : EnvOk H0 M0 H M σ env) (as : List Addr) (hM : ∀ a ∈ as, M a) (h0 : ∀ a ∈ as, H0 a = none) (out : ∀ c u, c ∉ as → H c = some u → H' c = some u) (ln : env'.length = env.length)
    (h : ∀ l : Nat, (env'[l]? = env[l]? ∧ ∀ a : Addr, (ownAt env[l]?).isSome = true → σ[l]? = some (some (V.ref a)) → a ∉ as) ∨ ∃ (oa : Option Addr) (m : Bool) (d : D) (m' : Bool) (d' : D) (a : Addr), ownAt env[l]? = some (oa, m, d) ∧ env'[l]? = some (reow oa m' d') ∧ σ[l]? = some (some (V.ref a)) ∧ a ∈ as ∧ Ob H' (Lm H0 M m') a d')
    (dom' : ∀ a ∈ as, ∃ o, H' a = some o ∧ Mut (some o)) : EnvOk H0 M0 H' M σ env' ∧ Evo H M H' M := by
  have evo : Evo H M H' M := fun a u nm e => ⟨out a u (fun z => nm (hM a z)) e, nm⟩
  have kp : ∀ {m : Bool}, Kp H (Lm H0 M m) H' (Lm H0 M m) := fun {m} => evo.kp ok.dom
  have own : ∀ {l : Nat}, (ownAt env'[l]?).isSome = true → (ownAt env[l]?).isSome = true := fun {l} e => by
    rcases h l with ⟨q, _⟩ | ⟨oa, m, d, m', d', a, q, _⟩
    · rwa [q] at e
    · rw [q]; rfl
  refine ⟨⟨by rw [ln]; exact ok.len, fun a u e => out a u (fun z => by rw [h0 a z] at e; cases e) (ok.same a u e), ok.m0, fun a m => ?_, fun l s el => ?_, fun i j a e1 e2 s1 s2 => ok.dis i j a (own e1) (own e2) s1 s2⟩, evo⟩
  · by_cases z : a ∈ as
    · exact dom' a z
    · obtain ⟨o, q, t⟩ := ok.dom a m
      exact ⟨o, out a o z q, t⟩
  · rcases h l with ⟨q, n⟩ | ⟨oa, m, d, m', d', a, q, q2, hs, ha, hn⟩
    · rw [q] at el
      have t := ok.sl l s el
      have keep : ∀ {b : Addr}, (ownAt env[l]?).isSome = true → σ[l]? = some (some (.ref b)) → (∃ o, H b = some o ∧ Mut (some o)) → H' b = H b := fun {b} e1 e2 ⟨o, q, _⟩ => by
        rw [out b o (n b e1 e2) q, q]
      cases s with
      | no => trivial
      | pt v => exact t
      | kn v m d => exact ⟨t.1, kp.dt t.2⟩
      | fr m d =>
        obtain ⟨v, q, t⟩ := t
        exact ⟨v, q, kp.dt t⟩
      | ow m d =>
        obtain ⟨b, q, x, y, t⟩ := t
        exact ⟨b, q, x, y, t.go (keep (by rw [el]; rfl) q t.there) (kp (m := m)).1 (kp (m := m)).2⟩
      | ko b m d =>
        obtain ⟨q, x, y, t⟩ := t
        exact ⟨q, x, y, t.go (keep (by rw [el]; rfl) q t.there) (kp (m := m)).1 (kp (m := m)).2⟩
    · rw [q2] at el
      cases el
      cases w : env[l]? with
      | none => rw [w] at q; cases q
      | some s =>
        rw [w] at q
        obtain ⟨b, g1, g2, g3, g4, g5⟩ := (ok.sl l _ w).own q
        rw [hs] at g1
        cases g1
        exact .reow hs g2 g3 hn g5
/-- what is put back -/
theorem pb_ok (ms : MEs) : ∀ (mask : List Nat) (news : List (Bool × D)) (env env' : List Sl), putBack ms mask news env = .next env' → (slotsOf ms mask).Nodup →
    mask.length = news.length ∧ (slotsOf ms mask).length = mask.length ∧ env'.length = env.length ∧ (∀ l : Nat, l ∉ slotsOf ms mask → env'[l]? = env[l]?) ∧
    ∀ (i p : Nat), mask[i]? = some p → ∃ (j : Nat) (o : Option Addr) (m : Bool) (d0 : D) (m' : Bool) (d' : D), nth? ms p = some (.v j) ∧ (slotsOf ms mask)[i]? = some j ∧ news[i]? = some (m', d') ∧ ownAt env[j]? = some (o, m, d0) ∧ env'[j]? = some (reow o (m || m') d')
  | [], [], env, env', e, _ => by
    cases e
    exact ⟨rfl, rfl, rfl, fun _ _ => rfl, fun i p z => by simp at z⟩
  | [], _ :: _, _, _, e, _ => by simp [putBack] at e
  | p :: mask, [], _, _, e, _ => by simp [putBack] at e
  | p :: mask, (m', d') :: news, env, env', e, nd => by
    unfold putBack at e
    split at e
    · rename_i j hj
      split at e
      · rename_i o m d0 ho
        have hs : slotsOf ms (p :: mask) = j :: slotsOf ms mask := by rw [slotsOf, hj]
        rw [hs] at nd ⊢
        obtain ⟨n1, n2⟩ := List.nodup_cons.mp nd
        have hlt : j < env.length := by
          cases w : env[j]? with
          | none => rw [w] at ho; cases ho
          | some s => exact (List.getElem?_eq_some_iff.mp w).1
        obtain ⟨h1, h2, h3, h4, h5⟩ := pb_ok ms mask news _ env' e n2
        refine ⟨by rw [List.length_cons, List.length_cons, h1], by rw [List.length_cons, List.length_cons, h2], by rw [h3, List.length_set], fun l hl => ?_, fun i q hi => ?_⟩
        · rw [List.mem_cons, not_or] at hl
          rw [h4 l hl.2, List.getElem?_set_ne (Ne.symm hl.1)]
        · cases i with
          | zero =>
            cases hi
            refine ⟨j, o, m, d0, m', d', hj, rfl, rfl, ho, ?_⟩
            rw [h4 j n1, List.getElem?_set_self hlt]
          | succ i =>
            obtain ⟨j2, o2, m2, d2, m2', d2', g1, g2, g3, g4, g5⟩ := h5 i q (by simpa using hi)
            have hne : j ≠ j2 := fun z => n1 (by rw [z]; exact List.mem_of_getElem? g2)
            rw [List.getElem?_set_ne hne] at g4
            exact ⟨j2, o2, m2, d2, m2', d2', g1, by simpa using g2, by simpa using g3, g4, g5⟩
      · cases e
    · cases e
theorem pb_flow (ms : MEs) : ∀ (mask : List Nat) (news : List (Bool × D)) (env : List Sl), putBack ms mask news env = .bad ∨ ∃ env', putBack ms mask news env = .next env'
  | [], [], env => .inr ⟨env, rfl⟩
  | [], _ :: _, _ => .inl (by simp [putBack])
  | p :: mask, [], _ => .inl (by simp [putBack])
  | p :: mask, (m', d') :: news, env => by
    unfold putBack
    split
    · split
      · exact pb_flow ms mask news _
      · exact .inl rfl
    · exact .inl rfl
theorem dts_at {H : Hp} {L : AS} : ∀ {vs : List V} {ds : List D}, vs.length = ds.length → (∀ (p : Nat) (v : V) (d : D), vs[p]? = some v → ds[p]? = some d → Dt H L v d) → Dts H L vs ds
  | [], [], _, _ => .nil
  | [], _ :: _, h, _ => by simp at h
  | _ :: _, [], h, _ => by simp at h
  | v :: vs, d :: ds, h, f => .cons (f 0 v d rfl rfl) (dts_at (by simpa using h) fun p v d e1 e2 => f (p + 1) v d (by simpa using e1) (by simpa using e2))
theorem RvOks.get {H0 : Hp} {M : AS} {Hs H : Hp} : ∀ {vs : List V} {rs : List Rv}, RvOks H0 M Hs H vs rs → ∀ {p : Nat} {v : V} {r : Rv}, vs[p]? = some v → rs[p]? = some r → RvOk H0 M Hs H v r
  | _, _, .nil, p, v, r, e, _ => by simp at e
  | _, _, .cons a t, 0, _, _, e1, e2 => by
    cases e1
    cases e2
    exact a
  | _, _, .cons a t, p + 1, _, _, e1, e2 => t.get (p := p) (by simpa using e1) (by simpa using e2)
theorem still_at {mask : List Nat} : ∀ {rs : List Rv} {k : Nat}, stillAt mask k rs = true → ∀ {p : Nat} {r : Rv}, rs[p]? = some r → p + k ∉ mask → isBo r = false
  | [], _, _, _, _, e, _ => by simp at e
  | a :: rs, k, h, 0, r, e, n => by
    cases e
    unfold stillAt at h
    simp only [Bool.and_eq_true, Bool.or_eq_true, decide_eq_true_eq, Bool.not_eq_true'] at h
    rcases h.1 with z | z
    · exact absurd (by simpa using z) n
    · exact z
  | a :: rs, k, h, p + 1, r, e, n => by
    unfold stillAt at h
    simp only [Bool.and_eq_true] at h
    exact still_at (p := p) h.2 (by simpa using e) (by rw [show p + (k + 1) = p + 1 + k by omega]; exact n)
theorem evEs_at {Γ : FT} {env : List Sl} : ∀ {ms : MEs} {rs : List Rv}, evEs Γ env ms = .ok rs → ∀ {p : Nat} {m : ME}, nth? ms p = some m → ∃ r, rs[p]? = some r ∧ evE Γ env m = .ok r
  | .nil, _, _, p, m, z => by cases p <;> simp [nth?] at z
  | .cons a ms, rs, h, p, m, z => by
    simp only [evEs] at h
    obtain ⟨x, hx, h⟩ := R.bind_ok h
    obtain ⟨xs, hxs, h⟩ := R.bind_ok h
    cases h
    cases p with
    | zero =>
      simp only [nth?, Option.some.injEq] at z
      subst z
      exact ⟨x, rfl, hx⟩
    | succ p => simpa using evEs_at hxs (p := p) z
def adr (σ : L2.St) (j : Nat) : Addr := match σ[j]? with
  | some (some (.ref a)) => a
  | _ => 0
theorem mc_use {E : XK} {mg : Str → Option Value} {D : Ends} {Γ : FT} {H0 H H1 : Hp} {M0 M : AS} {σ : L2.St} {env : List Sl} {ms : MEs} {rs : List Rv} {vs : List V} {g : List En.D → R Rv} (e1 : EnvOk H0 M0 H1 M σ env) (s1 : Same H H1) (rv : RvOks H0 M H H1 vs rs) (he : evEs Γ env ms = .ok rs)
    (id : ∀ p j, nth? ms p = some (.v j) → ∀ v, σ[j]? = some (some v) → vs[p]? = some v)
    (q : Sp E mg D H0 M0 H M (.of (g (rs.map Rv.d)) fun r => match r with
      | .mt mask news => if stillAt mask 0 rs && decide (slotsOf ms mask).Nodup then putBack ms mask news env else .bad
      | _ => .bad)) :
    ∃ (Mc : AS), (∀ a, Mc a → ∃ o, H1 a = some o ∧ Mut (some o)) ∧ Dts H1 (fun a => ¬ Mc a) vs (rs.map Rv.d) ∧ Rp E mg H1 (g (rs.map Rv.d)) (RetOk H1 Mc vs (rs.map Rv.d) fun _ H' => D.nx σ H') := by
  have ln : vs.length = (rs.map Rv.d).length := by rw [rv.length, List.length_map]
  cases eg : g (rs.map Rv.d) with
  | bad => rw [eg] at q; exact q.elim
  | err x =>
    rw [eg] at q
    obtain ⟨Mc, m1, _, ds⟩ := args_ok e1 rv
    exact ⟨Mc, fun a ha => e1.dom a (m1 a ha), ds, fun C H' hC s => q C H' hC (e1.same.trans s)⟩
  | ok r =>
    rw [eg] at q
    cases r with
    | fr m d => exact q.elim
    | ow m d => exact q.elim
    | bo m d => exact q.elim
    | mt mask news =>
      simp only [Fl.of] at q
      split at q
      · rename_i hc
        simp only [Bool.and_eq_true, decide_eq_true_eq] at hc
        obtain ⟨hst, hnd⟩ := hc
        cases ep : putBack ms mask news env with
        | next env' =>
          rw [ep] at q
          obtain ⟨l1, l2, l3, h4, h5⟩ := pb_ok ms mask news env env' ep hnd
          -- the slots handed in
          have own : ∀ {j : Nat} {o : Option Addr} {m : Bool} {d : En.D}, ownAt env[j]? = some (o, m, d) → σ[j]? = some (some (.ref (adr σ j))) ∧ M (adr σ j) ∧ H0 (adr σ j) = none ∧ Ob H1 (Lm H0 M m) (adr σ j) d := fun {j o m d} h => by
            cases w : env[j]? with
            | none => rw [w] at h; cases h
            | some s =>
              rw [w] at h
              obtain ⟨a, g1, g2, g3, g4, _⟩ := (e1.sl j _ w).own h
              have ha : adr σ j = a := by unfold adr; rw [g1]
              rw [ha]
              exact ⟨g1, g2, g3, g4⟩
          have mem : ∀ a ∈ (slotsOf ms mask).map (adr σ), ∃ (i p j : Nat) (o : Option Addr) (m : Bool) (d0 : En.D) (m' : Bool) (d' : En.D), mask[i]? = some p ∧ nth? ms p = some (.v j) ∧ (slotsOf ms mask)[i]? = some j ∧ news[i]? = some (m', d') ∧ ownAt env[j]? = some (o, m, d0) ∧ env'[j]? = some (reow o (m || m') d') ∧ a = adr σ j := fun a ha => by
            obtain ⟨j, hj, rfl⟩ := List.mem_map.mp ha
            obtain ⟨i, hi⟩ := List.getElem?_of_mem hj
            have hlt : i < mask.length := by rw [← l2]; exact (List.getElem?_eq_some_iff.mp hi).1
            obtain ⟨j', o, m, d0, m', d', g1, g2, g3, g4, g5⟩ := h5 i mask[i] (List.getElem?_eq_getElem hlt)
            rw [hi] at g2
            cases g2
            exact ⟨i, mask[i], j, o, m, d0, m', d', List.getElem?_eq_getElem hlt, g1, hi, g3, g4, g5, rfl⟩
          have hM : ∀ a ∈ (slotsOf ms mask).map (adr σ), M a := fun a ha => by
            obtain ⟨i, p, j, o, m, d0, m', d', _, _, _, _, g4, _, rfl⟩ := mem a ha
            exact (own g4).2.1
          have h0 : ∀ a ∈ (slotsOf ms mask).map (adr σ), H0 a = none := fun a ha => by
            obtain ⟨i, p, j, o, m, d0, m', d', _, _, _, _, g4, _, rfl⟩ := mem a ha
            exact (own g4).2.2.1
          have nd : ((slotsOf ms mask).map (adr σ)).Nodup := by
            refine (List.pairwise_map).mpr ?_
            refine hnd.imp_of_mem fun {j j'} hj hj' hne z => hne ?_
            obtain ⟨i, p, k, o, m, d0, m', d', _, _, g2, _, g4, _, z1⟩ := mem (adr σ j) (List.mem_map_of_mem hj)
            have o1 : ∀ j ∈ slotsOf ms mask, (ownAt env[j]?).isSome = true ∧ σ[j]? = some (some (.ref (adr σ j))) := fun j hj => by
              obtain ⟨i, hi⟩ := List.getElem?_of_mem hj
              have hlt : i < mask.length := by rw [← l2]; exact (List.getElem?_eq_some_iff.mp hi).1
              obtain ⟨j', o, m, d0, m', d', g1, g2, g3, g4, g5⟩ := h5 i mask[i] (List.getElem?_eq_getElem hlt)
              rw [hi] at g2
              cases g2
              exact ⟨by rw [g4]; rfl, (own g4).1⟩
            exact e1.dis j j' (adr σ j) (o1 j hj).1 (o1 j' hj').1 (o1 j hj).2 (by rw [z]; exact (o1 j' hj').2)
          generalize has : (slotsOf ms mask).map (adr σ) = as at mem hM h0 nd
          -- what is not handed in to be changed
          have still : ∀ (p : Nat) (v : V) (d : En.D), p ∉ mask → vs[p]? = some v → (rs.map Rv.d)[p]? = some d → Dt H1 (fun b => ¬ M b) v d := fun p v d hp e2 e3 => by
            rw [List.getElem?_map] at e3
            cases er : rs[p]? with
            | none => rw [er] at e3; cases e3
            | some r =>
              rw [er] at e3
              cases e3
              have hb := still_at hst er (by simpa using hp)
              have ro := rv.get e2 er
              cases r with
              | fr m d => exact Dt.wk (fun a q => q.1) ro
              | ow m d =>
                obtain ⟨a, rfl, _, h2, _, t⟩ := ro
                exact (t.wk (L' := fun a => ¬ M a) fun a q => q.1.1).dt h2
              | bo m d => simp [isBo] at hb
              | mt _ _ => exact ro.elim
          have chg : ∀ (i p : Nat), mask[i]? = some p → ∃ j o m d0 m' d', (slotsOf ms mask)[i]? = some j ∧ news[i]? = some (m', d') ∧ ownAt env[j]? = some (o, m, d0) ∧ env'[j]? = some (reow o (m || m') d') ∧ vs[p]? = some (.ref (adr σ j)) ∧ (rs.map Rv.d)[p]? = some d0 ∧ as[i]? = some (adr σ j) := fun i p hp => by
            obtain ⟨j, o, m, d0, m', d', g1, g2, g3, g4, g5⟩ := h5 i p hp
            refine ⟨j, o, m, d0, m', d', g2, g3, g4, g5, id p j g1 _ (own g4).1, ?_, ?_⟩
            · obtain ⟨r, hr, ev⟩ := evEs_at he g1
              rw [List.getElem?_map, hr]
              simp only [evE, getSl] at ev
              cases w : env[j]? with
              | none => rw [w] at g4; cases g4
              | some s =>
                rw [w] at g4 ev
                cases s <;> simp only [ownAt, reduceCtorEq, Option.some.injEq, Prod.mk.injEq] at g4
                · cases ev
                  rw [← g4.2.2]
                  rfl
                · cases ev
                  rw [← g4.2.2]
                  rfl
            · rw [← has, List.getElem?_map, g2]
              rfl
          refine ⟨fun a => M a ∧ a ∉ as, fun a ha => e1.dom a ha.1, dts_at ln fun p v d e2 e3 => ?_, as, ⟨by rw [← has, List.length_map]; exact l2, nd, fun i p a hi ha => ?_, fun p v d hp e2 e3 => (still p v d hp e2 e3).wk fun b nb => ⟨fun z => nb z.1, fun z => nb (hM b z)⟩, fun a ha z => z.2 ha⟩, fun H' ⟨out, obs⟩ => ?_⟩
          · by_cases hp : p ∈ mask
            · obtain ⟨i, hi⟩ := List.getElem?_of_mem hp
              obtain ⟨j, o, m, d0, m', d', g2, g3, g4, g5, g6, g7, g8⟩ := chg i p hi
              rw [e2] at g6
              cases g6
              rw [e3] at g7
              cases g7
              exact ((own g4).2.2.2.wk (L' := fun a => ¬ (M a ∧ a ∉ as)) fun b l z => l.1 z.1).dt fun z => z.2 (List.mem_of_getElem? g8)
            · exact (still p v d hp e2 e3).wk fun b nb z => nb z.1
          · obtain ⟨j, o, m, d0, m', d', g2, g3, g4, g5, g6, g7, g8⟩ := chg i p hi
            rw [ha] at g8
            cases g8
            exact ⟨g6, d0, g7, (own g4).2.2.2.wk fun b l => ⟨fun z => l.1 z.1, fun z => l.1 (hM b z)⟩⟩
          · have obs' : ∀ {i j : Nat} {o : Option Addr} {m m' : Bool} {d0 d' : En.D}, (slotsOf ms mask)[i]? = some j → news[i]? = some (m', d') → Ob H' (Lm H0 M (m || m')) (adr σ j) d' := fun {i j o m m' d0 d'} g2 g3 => by
              have ha : as[i]? = some (adr σ j) := by rw [← has, List.getElem?_map, g2]; rfl
              refine (obs i (adr σ j) m' d' ha g3).wk fun b l => ⟨fun z => l.1.1 ⟨z, l.2⟩, fun z => ?_⟩
              have zm : m' = false := by
                cases m' with
                | false => rfl
                | true => simp at z
              exact e1.same.free (l.1.2 zm)
            refine (fun (z : EnvOk H0 M0 H' M σ env' ∧ Evo H1 M H' M) => q σ H' M z.1 ((Evo.post s1).trans z.2)) (e1.chg as hM h0 out l3 (fun l => ?_) (fun a ha => ?_))
            · by_cases hl : l ∈ slotsOf ms mask
              · obtain ⟨i, hi⟩ := List.getElem?_of_mem hl
                have hlt : i < mask.length := by rw [← l2]; exact (List.getElem?_eq_some_iff.mp hi).1
                obtain ⟨j, o, m, d0, m', d', g2, g3, g4, g5, g6, g7, g8⟩ := chg i _ (List.getElem?_eq_getElem hlt)
                rw [hi] at g2
                cases g2
                exact .inr ⟨o, m, d0, m || m', d', adr σ l, g4, g5, (own g4).1, List.mem_of_getElem? g8, obs' (o := o) (d0 := d0) hi g3⟩
              · refine .inl ⟨h4 l hl, fun a oa hs z => hl ?_⟩
                obtain ⟨i, p, j, o, m, d0, m', d', _, _, g2, _, g4, _, za⟩ := mem a z
                have : l = j := e1.dis l j a oa (by rw [g4]; rfl) hs (by rw [za]; exact (own g4).1)
                rw [this]
                exact List.mem_of_getElem? g2
            · obtain ⟨i, p, j, o, m, d0, m', d', _, _, g2, g3, g4, _, rfl⟩ := mem a ha
              exact (obs' (o := o) (m := m) (d0 := d0) g2 g3).there
        | bad => rw [ep] at q; exact q.elim
        | _ =>
          rcases pb_flow ms mask news env with z | ⟨_, z⟩ <;> rw [z] at ep <;> cases ep
      · exact q.elim
end En

set_option Elab.async false
set_option linter.all false
set_option maxRecDepth 100000
set_option maxHeartbeats 8000000
namespace En
open PySem PySem.Spec PyProof.Rows L2

theorem Sp.base {E : XK} {mg : Str → Option Value} {D : Ends} {H0 : Hp} {M0 : AS} {H H1 : Hp} {M M1 : AS} {f : Fl} (h : Sp E mg D H0 M0 H M f) (e : Evo H M H1 M1) : Sp E mg D H0 M0 H1 M1 f := by
  cases f with
  | bad => exact h
  | err x => exact h
  | next env => exact fun σ' H' M' k v => h σ' H' M' k (e.trans v)
  | ret r => exact h
  | brk env => exact fun σ' H' M' k v => h σ' H' M' k (e.trans v)
  | cnt env => exact fun σ' H' M' k v => h σ' H' M' k (e.trans v)
/-- one after another -/
theorem Sp.then {E : XK} {mg : Str → Option Value} {D : Ends} {H0 : Hp} {M0 : AS} {H : Hp} {M : AS} {f : Fl} {g : List Sl → Fl} {nx : L2.St → Hp → Prop} (h : Sp E mg D H0 M0 H M (f.then g))
    (n : ∀ env σ' H' M', Sp E mg D H0 M0 H M (g env) → EnvOk H0 M0 H' M' σ' env → Evo H M H' M' → nx σ' H') : Sp E mg { D with nx := nx } H0 M0 H M f := by
  cases f with
  | bad => exact h
  | err x => exact h
  | next env => exact fun σ' H' M' k v => n env σ' H' M' h k v
  | ret r => exact h
  | brk env => exact h
  | cnt env => exact h
theorem sto_ne (r : Rv) (x : Str) : sto r ≠ .err x := by cases r <;> simp [sto]
theorem sp_sto {E : XK} {mg : Str → Option Value} {D : Ends} {H0 : Hp} {M0 : AS} {H : Hp} {M : AS} {r : Rv} {f : Bool × En.D → Fl} (h : Sp E mg D H0 M0 H M (.of (sto r) f)) : ∃ p, sto r = .ok p ∧ Sp E mg D H0 M0 H M (f p) := by
  cases e : sto r with
  | bad => rw [e] at h; exact h.elim
  | err x => exact absurd e (sto_ne _ _)
  | ok p => rw [e] at h; exact ⟨p, rfl, h⟩
theorem sub_assign {N : List Str} {sc : Scope} {m : ME} {y : Expr} {x : Str} {p pos : Pos} {env : Env} (hy : okE N sc m y = true) : ∀ v, assign (.Subscript (.Name x p) y pos) env v = (do
      let ov ← holding [v] (eval (.Name x p) env)
      let iv ← holding [v, ov] (eval y env)
      standAt pos
      holding [v, ov, iv] (setItem ov iv v)
      release [v, ov, iv] []) := by
  intro v
  cases y with
  | Slice a b c d => rw [ok_slice] at hy; cases hy
  | _ => rfl
theorem setAll_ne (m : Bool) : ∀ (l : List Nat) (ds : List En.D) (env : List Sl) (x : Str), setAll m l ds env ≠ .err x
  | [], [], _, _ => by simp [setAll]
  | i :: l, d :: ds, env, x => by
    unfold setAll
    split
    · exact setAll_ne m l ds _ x
    · simp
  | [], _ :: _, _, _ => by simp [setAll]
  | _ :: _, [], _, _ => by simp [setAll]
theorem bindG_ne (g : MG) (m : Bool) (d : En.D) (env : List Sl) (x : Str) : bindG g m d env ≠ .err x := by
  cases g with
  | n i => simp only [bindG]; split <;> simp
  | t l =>
    cases d <;> simp only [bindG] <;> first | exact setAll_ne _ _ _ _ _ | simp
theorem Dvs.app {H : Hp} {L : AS} : ∀ {ws : List V} {fs : List (En.D × En.D)} {w : V} {f : En.D × En.D}, Dvs H L ws fs → Dt H L w f.2 → Dvs H L (ws ++ [w]) (fs ++ [f])
  | [], _, _, _, h, t => by cases h; exact .cons t .nil
  | _ :: _, _, _, _, h, t => by
    cases h with
    | cons a b => exact .cons a (Dvs.app b t)
theorem few1 {N : List Str} {sc : Scope} {m : ME} {v : Expr} {cp : Pos} {env : Env} (h : okE N sc m v = true) : ((backTo cp (starEach [v] env)).all (fun x => !x.1) && (backToKw cp (keywordEach [] env)).all (fun x => x.1.isSome)
      && decide ([v].length + ([] : List Keyword).length + (if ([] : List Keyword).isEmpty then 0 else 1) < 30)) = true := by
  rw [star_cons h]
  rfl
section
variable {Γ : FT} {k fuel : Nat} {ex : Ex}
theorem mc_ok {X : Cx} {E : XK} {s : Stmt} (f : Str) (ms : MEs) (o : OkS X Γ E k ex) (h : okS ex X.N X.env.scope (.mc f ms) s = true) : PS X s (tS Γ fuel E X.mg (.mc f ms)) := by
  simp only [okS] at h
  split at h
  · rename_i g p x xs p2 p3
    simp only [Bool.and_eq_true, decide_eq_true_eq] at h
    obtain ⟨⟨rfl, h1⟩, h3⟩ := h
    have hst : starEach (x :: xs) X.env = (false, eval x X.env) :: starEach xs X.env ∧ ∀ pos, (backTo pos (starEach xs X.env)).any (·.1) = false := by
      cases ms with
      | nil => simp [okEs] at h3
      | cons m ms' =>
        simp only [okEs, Bool.and_eq_true] at h3
        exact ⟨star_cons h3.1 xs _, fun pos => back_any pos _ (star_none h3.2)⟩
    cases hΓ : Γ f with
    | none =>
      refine ⟨fun pins s σ H D I ⟨H0, M0, M, env, eo, q⟩ => ?_⟩
      simp only [evS, hΓ] at q
      exact q.elim
    | some p =>
      obtain ⟨n, g⟩ := p
      obtain ⟨fa, fd, ps, F, mf, kf, bf⟩ := o.ok.fns f n g hΓ
      have cp : ∀ (cls : Value) (d : Option Addr) (σ : L2.St) (H : Hp), E cls d H → E cls d H := fun _ _ _ _ q => q
      refine (ps_expr (pe_call F (o.ok.room.mono (by omega)) (gl_of h1).1 mf kf bf .nil (passes_call o.ok.tk cp) (sMs o.ok ms _ h3) (gl_of h1).2 hst.1 (hst.2 _)) rfl).imp fun D σ H ⟨H0, M0, M, env, eo, q⟩ => ?_
      simp only [evS, hΓ] at q
      refine ⟨H0, M0, M, env, eo, (Sp.of eo q).imp fun rs he q vs H1 s1 rv id => ?_⟩
      split at q
      · rename_i hn
        rw [List.append_nil]
        obtain ⟨Mc, h⟩ := mc_use (eo.up s1) s1 rv he id q
        exact ⟨by rw [rv.length]; exact hn, Mc, _, h⟩
      · exact q.elim
  · cases h
mutual
theorem sS : ∀ (m : MS) {X : Cx} {E : XK} (s : Stmt), OkS X Γ E k ex → okS ex X.N X.env.scope m s = true → PS X s (tS Γ fuel E X.mg m)
  | .skip, X, E, s, o, h => by
    simp only [okS] at h
    split at h
    · exact ps_pass.imp fun D σ H ⟨H0, M0, M, env, eo, q⟩ => q σ H M eo (Evo.refl _ _)
    · exact ps_doc.imp fun D σ H ⟨H0, M0, M, env, eo, q⟩ => q σ H M eo (Evo.refl _ _)
    · cases h
  | .set i e own, X, E, s, o, h => by
    simp only [okS] at h
    split at h
    · simp only [Bool.and_eq_true] at h
      refine (set_lc o h.1 h.2).imp fun D σ H ⟨H0, M0, M, env, eo, q⟩ => ?_
      simp only [evS] at q
      exact ⟨H0, M0, M, env, eo, (Sp.of eo q).imp fun r _ q v H1 s1 rv => put1_ok eo s1 rv q⟩
    · cases h
  | .par i j a b, X, E, s, o, h => by
    simp only [okS] at h
    split at h
    · rename_i x px y py kt pt u v k2 pt2 pos
      simp only [Bool.and_eq_true, decide_eq_true_eq, Bool.not_eq_true'] at h
      obtain ⟨⟨⟨⟨⟨⟨⟨⟨⟨⟨h1, h2⟩, h3⟩, h4⟩, h5⟩, h6⟩, h7⟩, h8⟩, h9⟩, ha⟩, hb⟩ := h
      have ns : ∀ {m : ME} {e : Expr}, okE X.N X.env.scope m e = true → ∀ a p, e ≠ .Starred a p := fun {m e} he a p z => by rw [z, ok_star] at he; cases he
      have hes : okEs X.N X.env.scope (.cons a (.cons b .nil)) [u, v] = true := by simp only [okEs, ha, hb]; rfl
      refine (ps_par o.ok.calm o.ok.nd h1 h2 h3 h5 h6 (sEs (.cons a (.cons b .nil)) [u, v] o.ok hes).1 (sw_par o.kind h5 h6 h4 h7 h8 h9 (ns ha) (ns hb)) (show swapsWithSole [.Tuple [.Name x px, .Name y py] kt pt] (.Tuple [u, v] k2 pt2) pos.line X.env = pure false from rfl)).imp fun D σ H ⟨H0, M0, M, env, eo, q⟩ => ?_
      simp only [evS] at q
      refine ⟨H0, M0, M, env, eo, (Sp.of eo q).imp fun rs _ q vs H1 s1 rv => ?_⟩
      cases e1 : stos rs with
      | bad => rw [e1] at q; exact q.elim
      | err z => exact absurd e1 (stos_ne _ _)
      | ok p =>
        rw [e1] at q
        have t := rv.stos e1
        cases e2 : setAll p.1 [i, j] p.2 env with
        | bad => simp only [Fl.of, e2] at q
                 exact q.elim
        | err z => exact absurd e2 (setAll_ne _ _ _ _ _)
        | ok env' =>
          simp only [Fl.of, e2] at q
          obtain ⟨hl, k⟩ := setAll_ok (eo.up s1) t e2
          cases vs with
          | nil => simp at hl
          | cons v1 vs => cases vs with
            | nil => simp at hl
            | cons v2 vs => cases vs with
              | cons _ _ => simp at hl
              | nil => exact ⟨v1, v2, rfl, q _ H1 M k (Evo.post s1)⟩
    · cases h
  | .unp l e, X, E, s, o, h => by
    simp only [okS] at h
    split at h
    · rename_i es kk p v pos
      simp only [Bool.and_eq_true, Bool.not_eq_true'] at h
      obtain ⟨⟨h1, h2⟩, h3⟩ := h
      have hg : PG X (.Tuple es kk p) (gOf X (.t l)) := g_ok (g := .t l) (e := .Tuple es kk p) o.ok.nd o.ok.calm o.fnIn h1
      refine (ps_asg (sE e v o.ok h3).1 hg (show swapsWithSole [.Tuple es kk p] v pos.line X.env = pure false from @sw_tup v es kk p pos.line X.env) (sw_store h2) rfl).imp fun D σ H ⟨H0, M0, M, env, eo, q⟩ => ?_
      simp only [evS] at q
      refine ⟨H0, M0, M, env, eo, (Sp.of eo q).imp fun r _ q v H1 s1 rv => ?_⟩
      split at q
      · exact q.elim
      · split at q
        · rename_i ds hd
          cases e2 : setAll r.m l ds env with
          | bad => rw [e2] at q; exact q.elim
          | err x => exact absurd e2 (setAll_ne _ _ _ _ _)
          | ok env' =>
            rw [e2] at q
            have c := rv.cn
            rw [hd] at c
            cases c with
            | @tup a xs _ r' s' =>
              obtain ⟨g1, g2⟩ := setAll_ok (eo.up s1) s' e2
              exact ⟨a, xs, rfl, .inl (.inl (.inl r')), g1, g1, q _ H1 M g2 (Evo.post s1)⟩
        · rename_i ds hd
          cases e2 : setAll r.m l ds env with
          | bad => rw [e2] at q; exact q.elim
          | err x => exact absurd e2 (setAll_ne _ _ _ _ _)
          | ok env' =>
            rw [e2] at q
            have c := rv.cn
            rw [hd] at c
            cases c with
            | @lst a xs _ r' s' =>
              obtain ⟨g1, g2⟩ := setAll_ok (eo.up s1) s' e2
              exact ⟨a, xs, rfl, .inr (.inl r'), g1, g1, q _ H1 M g2 (Evo.post s1)⟩
        · exact q.elim
    · cases h
  | .ret e, X, E, s, o, h => by
    simp only [okS] at h
    split at h
    · refine (ps_ret (sE e _ o.ok h).1).imp fun D σ H ⟨H0, M0, M, env, eo, q⟩ => ?_
      simp only [evS] at q
      refine ⟨H0, M0, M, env, eo, (Sp.of eo q).imp fun r _ q v H1 s1 rv => ?_⟩
      split at q
      · exact q.elim
      · exact q v H1 M (eo.same.trans s1) (fun a m => (eo.m0 a m).1) (rv.back eo.same)
    · cases h
  | .retN, X, E, s, o, h => by
    simp only [okS] at h
    split at h
    · exact ps_retN.imp fun D σ H ⟨H0, M0, M, env, eo, q⟩ => q _ H M eo.same (fun a m => (eo.m0 a m).1) .non
    · cases h
  | .reto i, X, E, s, o, h => by
    simp only [okS] at h
    split at h
    · refine (ps_ret (pe_v h)).imp fun D σ H ⟨H0, M0, M, env, eo, q⟩ => ?_
      simp only [evS] at q
      split at q
      · rename_i m d e
        obtain ⟨a, h1, h2, h3, t⟩ := eo.sl i _ e
        have q : ∀ v H' M', Same H0 H' → (∀ a, M0 a → M' a) → RvOk H0 M' H0 H' v (.ow m d) → D.rt v H' := q
        refine ⟨_, h1, q _ H (fun b => M b ∧ b ≠ a) eo.same (fun b mb => ⟨(eo.m0 b mb).1, fun z => (eo.m0 b mb).2 (by rw [z]; exact h3)⟩) ⟨a, rfl, h3, fun z => z.2 rfl, h3, t.wk fun b l => ⟨⟨fun z => l.1 z.1, l.2⟩, fun z => l.1 (by rw [z]; exact h2)⟩⟩⟩
      · exact q.elim
    · cases h
  | .ife c a b, X, E, s, o, h => by
    simp only [okS] at h
    split at h
    · simp only [Bool.and_eq_true] at h
      obtain ⟨⟨h1, h2⟩, h3⟩ := h
      refine (ps_if (sE c _ o.ok h1).2 (sSs a _ o h2) (sSs b _ o h3)).imp fun D σ H ⟨H0, M0, M, env, eo, q⟩ => ?_
      simp only [evS] at q
      refine ⟨H0, M0, M, env, eo, (Sp.of eo q).imp fun t _ q H1 s1 => ?_⟩
      cases t with
      | true => exact ⟨H0, M0, M, env, eo.up s1, q.base (Evo.post s1)⟩
      | false => exact ⟨H0, M0, M, env, eo.up s1, q.base (Evo.post s1)⟩
    · cases h
  | .for_ g it b, X, E, s, o, h => by
    simp only [okS] at h
    split at h
    · rename_i tg iter body pos
      simp only [Bool.and_eq_true] at h
      obtain ⟨⟨h1, h2⟩, h3⟩ := h
      refine (ps_for o.own o.ok.calm (sI it tg iter o.ok h2) (g_ok o.ok.nd o.ok.calm o.fnIn h1) (sSs b body o h3) (no_setI h2)).imp fun D σ H ⟨H0, M0, M, env, eo, q⟩ => ?_
      simp only [evS] at q
      refine ⟨H0, M0, M, env, eo, (Sp.of eo q).imp fun p _ q J H1 s1 wk => ?_⟩
      obtain ⟨G, Y, w, hG, hY⟩ := wk
      generalize hF : (fun d e => Fl.of (bindG g p.1 d e) fun e' => evSs Γ fuel b e') = F at q
      have eo1 := eo.up s1
      refine for_it w (fun i σ2 H2 => ∃ M2 env2, EnvOk H0 M0 H2 M2 σ2 env2 ∧ Evo H1 M H2 M2 ∧ Sp E X.mg D H0 M0 H M (forR F (p.2.drop i) env2)) ⟨M, env, eo1, Evo.refl _ _, by simpa using q⟩ ?_ ?_ ?_
      · rintro i σ2 H2 _ ⟨M2, env2, _, e2, _⟩
        exact hG H2 _ (e2.kp eo1.dom)
      · rintro i x σ2 H2 H3 hlt ⟨M2, env2, k2, e2, q2⟩ y
        have hd : p.2[i]? = some p.2[i] := List.getElem?_eq_getElem hlt
        rw [List.drop_eq_getElem_cons hlt] at q2
        generalize p.2[i] = d at hd q2
        obtain ⟨s3, t3⟩ := hY i H2 x H3 d _ (e2.kp eo1.dom) y hd
        have k3 := k2.up s3
        unfold forR at q2
        have hFd : F d env2 = Fl.of (bindG g p.1 d env2) fun e' => evSs Γ fuel b e' := by rw [← hF]
        rw [hFd] at q2
        cases e3 : bindG g p.1 d env2 with
        | bad => rw [e3] at q2; exact q2.elim
        | err x => exact absurd e3 (bindG_ne _ _ _ _ _)
        | ok env3 =>
          rw [e3] at q2
          refine bind_ok k3 t3 e3 fun σ3 k4 _ _ => ⟨H0, M0, M2, env3, k4, ?_⟩
          have q2 : Sp E X.mg D H0 M0 H M (match evSs Γ fuel b env3 with
            | .next e => forR F (p.2.drop (i + 1)) e
            | .cnt e => forR F (p.2.drop (i + 1)) e
            | .brk e => .next e
            | a => a) := q2
          cases e5 : evSs Γ fuel b env3 with
          | bad => rw [e5] at q2; exact q2
          | err x => rw [e5] at q2; exact q2
          | ret r => rw [e5] at q2; exact q2
          | next env4 => rw [e5] at q2; exact fun σ' H' M' k' e' => ⟨M', env4, k', e2.trans ((Evo.post s3).trans e'), q2⟩
          | cnt env4 => rw [e5] at q2; exact fun σ' H' M' k' e' => ⟨M', env4, k', e2.trans ((Evo.post s3).trans e'), q2⟩
          | brk env4 =>
            rw [e5] at q2
            exact fun σ' H' M' k' e' => q2 σ' H' M' k' ((Evo.pre s1 e2).trans ((Evo.post s3).trans e'))
      · rintro σ2 H2 ⟨M2, env2, k2, e2, q2⟩
        rw [List.drop_length] at q2
        exact q2 σ2 H2 M2 k2 (Evo.pre s1 e2)
    · cases h
  | .whl c b, X, E, s, o, h => by
    simp only [okS] at h
    split at h
    · simp only [Bool.and_eq_true] at h
      obtain ⟨h1, h2⟩ := h
      refine (ps_while o.own (sE c _ o.ok h1).2 (sSs b _ o h2)).imp fun D σ H ⟨H0, M0, M, env, eo, q⟩ => ?_
      simp only [evS] at q
      refine ⟨fun n σ2 H2 => ∃ M2 env2, EnvOk H0 M0 H2 M2 σ2 env2 ∧ Evo H M H2 M2 ∧ Sp E X.mg D H0 M0 H M (whlR (fun e => (evE Γ e c).bind truth) (fun e => evSs Γ fuel b e) n env2), ⟨fuel, M, env, eo, Evo.refl _ _, q⟩, ?_⟩
      rintro n σ2 H2 ⟨M2, env2, k2, e2, q2⟩
      cases n with
      | zero => exact q2.elim
      | succ n =>
        unfold whlR at q2
        refine ⟨H0, M0, M2, env2, k2, (Sp.of k2 q2).imp fun t _ q2 H3 s3 => ?_⟩
        cases t with
        | false =>
          rw [if_neg (by simp)] at q2 ⊢
          exact q2 σ2 H3 M2 (k2.up s3) (e2.trans (Evo.post s3))
        | true =>
          rw [if_pos rfl] at q2 ⊢
          refine ⟨fun σ' H' => ∃ M' env', EnvOk H0 M0 H' M' σ' env' ∧ Evo H M H' M' ∧ Sp E X.mg D H0 M0 H M (whlR (fun e => (evE Γ e c).bind truth) (fun e => evSs Γ fuel b e) n env'), fun σ' H' p => ⟨n, Nat.lt_succ_self n, p⟩, H0, M0, M2, env2, k2.up s3, ?_⟩
          cases e5 : evSs Γ fuel b env2 with
          | bad => rw [e5] at q2; exact q2
          | err x => rw [e5] at q2; exact q2
          | ret r => rw [e5] at q2; exact q2
          | next env4 => rw [e5] at q2; exact fun σ' H' M' k' e' => ⟨M', env4, k', e2.trans ((Evo.post s3).trans e'), q2⟩
          | cnt env4 => rw [e5] at q2; exact fun σ' H' M' k' e' => ⟨M', env4, k', e2.trans ((Evo.post s3).trans e'), q2⟩
          | brk env4 =>
            rw [e5] at q2
            exact fun σ' H' M' k' e' => q2 σ' H' M' k' (e2.trans ((Evo.post s3).trans e'))
    · cases h
  | .exp e, X, E, s, o, h => by
    simp only [okS] at h
    split at h
    · simp only [Bool.and_eq_true, Bool.not_eq_true'] at h
      refine (ps_expr (sE e _ o.ok h.2).1 (sw_plain h.2 h.1)).imp fun D σ H ⟨H0, M0, M, env, eo, q⟩ => ?_
      simp only [evS] at q
      exact ⟨H0, M0, M, env, eo, (Sp.of eo q).imp fun r _ q v H1 s1 rv => q σ H1 M (eo.up s1) (Evo.post s1)⟩
    · cases h
  | .app i e, X, E, s, o, h => by
    simp only [okS] at h
    split at h
    · rename_i x p m ap v cp pos
      simp only [Bool.and_eq_true, decide_eq_true_eq] at h
      obtain ⟨⟨⟨h1, rfl⟩, h2⟩, h3⟩ := h
      refine (ps_expr (pe_bm PySem.F.plainAttrs_list PySem.F.slot_list_append PySem.F.type_list_append mt_append (pe_v h1) (pa_cons (sE e v o.ok h3).1 pa_nil (star_cons h3 _ _)) attr_name (few1 h3) h2 (star_cons h3 _ _) rfl) rfl).imp fun D σ H ⟨H0, M0, M, env, eo, q⟩ => ?_
      simp only [evS] at q
      split at q
      · rename_i oa m ds ei
        obtain ⟨a, xs, g1, g2, g3, g4, g5, goa⟩ := own_at eo ei
        refine ⟨_, g1, .inl ⟨rfl, xs, .inl (.inl g4)⟩, H0, M0, M, env, eo, (Sp.of eo q).imp fun r _ q v H1 s1 rv => ?_⟩
        obtain ⟨pr, es, q⟩ := sp_sto q
        split at q
        · rename_i hz
          have hz := of_decide_eq_true hz
          have q4 := s1 _ _ g4
          refine ⟨a, xs, v, rfl, rfl, q4, by rw [g5.length]; exact hz, ?_⟩
          obtain ⟨k, ev⟩ := (eo.up s1).mut (o := .lst (xs ++ [v])) (m' := m || pr.1) (d' := .list (ds ++ [pr.2])) ei g1 g2 g3 trivial
            (.lst upd_same ((dts_mut g2 q4 ((sm_dts s1 g5).wk fun _ => Lm.orl)).append (dts_mut g2 q4 (.cons ((rv.sto es).wk fun _ => Lm.orr) .nil)))) goa
          exact q σ _ M k ((Evo.post s1).trans ev)
        · exact q.elim
      · exact q.elim
    · cases h
  | .ext i e, X, E, s, o, h => by
    simp only [okS] at h
    split at h
    · rename_i x p m ap v cp pos
      simp only [Bool.and_eq_true, decide_eq_true_eq] at h
      obtain ⟨⟨⟨h1, rfl⟩, h2⟩, h3⟩ := h
      refine (ps_expr (pe_bm PySem.F.plainAttrs_list PySem.F.slot_list_extend PySem.F.type_list_extend mt_extR (pe_v h1) (pa_cons (sE e v o.ok h3).1 pa_nil (star_cons h3 _ _)) attr_name (few1 h3) h2 (star_cons h3 _ _) rfl) rfl).imp fun D σ H ⟨H0, M0, M, env, eo, q⟩ => ?_
      simp only [evS] at q
      split at q
      · rename_i oa m ds ei
        obtain ⟨a, xs, g1, g2, g3, g4, g5, goa⟩ := own_at eo ei
        refine ⟨_, g1, .inl ⟨rfl, xs, .inl (.inl g4)⟩, H0, M0, M, env, eo, (Sp.of eo q).imp fun r _ q v H1 s1 rv => ?_⟩
        split at q
        · rename_i es hd
          split at q
          · rename_i hz
            have hz := fits_le hz
            have q4 := s1 _ _ g4
            have c := rv.cn
            rw [hd] at c
            cases c with
            | @lst b zs _ r' s' =>
              refine ⟨a, b, xs, zs, rfl, rfl, q4, r', by rw [g5.length, s'.length]; exact hz, ?_⟩
              obtain ⟨k, ev⟩ := (eo.up s1).mut (o := .lst (xs ++ zs)) (m' := m || r.m) (d' := .list (ds ++ es)) ei g1 g2 g3 trivial
                (.lst upd_same ((dts_mut g2 q4 ((sm_dts s1 g5).wk fun _ => Lm.orl)).append (dts_mut g2 q4 (s'.wk fun _ => Lm.orr)))) goa
              exact q σ _ M k ((Evo.post s1).trans ev)
          · exact q.elim
        · exact q.elim
      · exact q.elim
    · cases h
  | .put i kx e, X, E, s, o, h => by
    simp only [okS] at h
    split at h
    · rename_i x p y p2 v pos
      simp only [Bool.and_eq_true] at h
      obtain ⟨⟨h1, h2⟩, h3⟩ := h
      refine (ps_asg (sE e v o.ok h3).1 (pg_sub (pe_v h1) (sE kx y o.ok h2).1 set_list (sub_assign h2)) (show swapsWithSole [.Subscript (.Name x p) y p2] v pos.line X.env = pure false from @sw_sub v (.Name x p) y p2 pos.line X.env) sw_store_sub rfl).imp fun D σ H ⟨H0, M0, M, env, eo, q⟩ => ?_
      simp only [evS] at q
      refine ⟨H0, M0, M, env, eo, (Sp.of eo q).imp fun r _ q v H1 s1 rv => ?_⟩
      obtain ⟨pr, es, q⟩ := sp_sto q
      split at q
      · rename_i oa m ds ei
        obtain ⟨a, xs, g1, g2, g3, g4, g5, goa⟩ := own_at eo ei
        refine ⟨_, g1, H0, M0, M, env, eo.up s1, (Sp.of (eo.up s1) q).imp fun r2 _ q u H2 s2 rv2 => ?_⟩
        have s12 := s1.trans s2
        split at q
        · rename_i n hn
          split at q
          · rename_i j hj
            have q4 := s12 _ _ g4
            refine ⟨a, xs, n, j, rfl, sc_sc rv2 hn, q4, by rw [g5.length]; exact hj, ?_⟩
            obtain ⟨k, ev⟩ := (eo.up s12).mut (o := .lst (xs.set j v)) (m' := m || pr.1) (d' := .list (ds.set j pr.2)) ei g1 g2 g3 trivial
              (.lst upd_same (((dts_mut g2 q4 ((sm_dts s12 g5).wk fun _ => Lm.orl))).set (dts_mut g2 q4 (.cons ((sm_dt s2 (rv.sto es)).wk fun _ => Lm.orr) .nil)).cons_inv.1 j)) goa
            exact q σ _ M k ((Evo.post s12).trans ev)
          · exact q.elim
        · exact q.elim
      · exact q.elim
    · cases h
  | .ins i kx e, X, E, s, o, h => by
    simp only [okS] at h
    split at h
    · rename_i x p m ap y v cp pos
      simp only [Bool.and_eq_true, decide_eq_true_eq] at h
      obtain ⟨⟨⟨⟨h1, rfl⟩, h2⟩, h3⟩, h4⟩ := h
      refine (ps_expr (pe_bm PySem.F.plainAttrs_list PySem.F.slot_list_insert PySem.F.type_list_insert mt_insert (pe_v h1) (pa_cons (sE kx y o.ok h3).1 (pa_cons (sE e v o.ok h4).1 pa_nil (star_cons h4 _ _)) (star_cons h3 _ _)) attr_name (by rw [star_cons h3, star_cons h4]; rfl) h2 (star_cons h3 _ _) (back_any _ _ (by rw [star_cons h4]; rfl))) rfl).imp fun D σ H ⟨H0, M0, M, env, eo, q⟩ => ?_
      simp only [evS] at q
      split at q
      · rename_i oa m ds ei
        obtain ⟨a, xs, g1, g2, g3, g4, g5, goa⟩ := own_at eo ei
        refine ⟨_, g1, .inl ⟨rfl, xs, .inl (.inl g4)⟩, H0, M0, M, env, eo, (Sp.of eo q).imp fun r2 _ q v2 H1 s1 rv2 => ?_⟩
        split at q
        · rename_i n hn
          refine ⟨H0, M0, M, env, eo.up s1, (Sp.of (eo.up s1) q).imp fun r _ q v H2 s2 rv => ?_⟩
          obtain ⟨pr, es, q⟩ := sp_sto q
          have s12 := s1.trans s2
          split at q
          · rename_i hz
            simp only [Bool.and_eq_true, decide_eq_true_eq] at hz
            have q4 := s12 _ _ g4
            refine ⟨a, xs, n, v, rfl, by rw [sc_sc rv2 hn], q4, by rw [g5.length]; exact hz.1.1, hz.1.2, hz.2, ?_⟩
            have k5 := dts_mut (o := .lst (xs.take n.toNat ++ [v] ++ xs.drop n.toNat)) g2 q4 ((sm_dts s12 g5).wk (L' := Lm H0 M (m || pr.1)) fun _ => Lm.orl)
            obtain ⟨k, ev⟩ := (eo.up s12).mut (o := .lst (xs.take n.toNat ++ [v] ++ xs.drop n.toNat)) (m' := m || pr.1) (d' := .list (ds.take n.toNat ++ [pr.2] ++ ds.drop n.toNat)) ei g1 g2 g3 trivial
              (.lst upd_same (((k5.take n.toNat).append (dts_mut g2 q4 (.cons ((rv.sto es).wk fun _ => Lm.orr) .nil))).append (k5.drop n.toNat))) goa
            exact q σ _ M k ((Evo.post s12).trans ev)
          · exact q.elim
        · exact q.elim
      · exact q.elim
    · cases h
  | .popS z i, X, E, s, o, h => by
    simp only [okS] at h
    split at h
    · rename_i x p y p2 m ap cp pos
      simp only [Bool.and_eq_true, decide_eq_true_eq] at h
      obtain ⟨⟨⟨h1, h2⟩, rfl⟩, h3⟩ := h
      refine (ps_asg (pe_bm0 PySem.F.plainAttrs_list PySem.F.slot_list_pop PySem.F.type_list_pop mt_pop (pe_v h2) attr_name h3) (pg_ok o.ok.nd o.fnIn h1) rfl rfl rfl).imp fun D σ H ⟨H0, M0, M, env, eo, q⟩ => ?_
      simp only [evS] at q
      split at q
      · rename_i oa m ds ei
        obtain ⟨a, xs, g1, g2, g3, g4, g5, goa⟩ := own_at eo ei
        split at q
        · rename_i d hd
          obtain ⟨v, hv, t⟩ := g5.get hd
          split at q
          · exact q.elim
          · rename_i hne
            refine ⟨_, g1, .inl ⟨rfl, xs, .inl (.inl g4)⟩, a, xs, v, rfl, rfl, g4, by rw [g5.length]; exact hv, ?_⟩
            obtain ⟨k, ev⟩ := eo.mut (o := .lst xs.dropLast) (m' := m) (d' := .list ds.dropLast) ei g1 g2 g3 trivial
              (.lst upd_same (by rw [List.dropLast_eq_take, List.dropLast_eq_take, g5.length]; exact (dts_mut g2 g4 g5).take _)) goa
            unfold setSl at q
            split at q
            · rename_i hz
              exact q _ _ M (k.set_fr (dts_mut g2 g4 (.cons t .nil)).cons_inv.1 hz) ev
            · exact q.elim
        · exact q.elim
      · exact q.elim
    · cases h
  | .popI z i kx, X, E, s, o, h => by
    simp only [okS] at h
    split at h
    · rename_i x p y p2 m ap v cp pos
      simp only [Bool.and_eq_true, decide_eq_true_eq] at h
      obtain ⟨⟨⟨⟨h1, h2⟩, rfl⟩, h3⟩, h4⟩ := h
      refine (ps_asg (pe_bm PySem.F.plainAttrs_list PySem.F.slot_list_pop PySem.F.type_list_pop mt_popAt (pe_v h2) (pa_cons (sE kx v o.ok h4).1 pa_nil (star_cons h4 _ _)) attr_name (few1 h4) h3 (star_cons h4 _ _) rfl) (pg_ok o.ok.nd o.fnIn h1) rfl rfl rfl).imp fun D σ H ⟨H0, M0, M, env, eo, q⟩ => ?_
      simp only [evS] at q
      split at q
      · rename_i oa m ds ei
        obtain ⟨a, xs, g1, g2, g3, g4, g5, goa⟩ := own_at eo ei
        refine ⟨_, g1, .inl ⟨rfl, xs, .inl (.inl g4)⟩, H0, M0, M, env, eo, (Sp.of eo q).imp fun r _ q w H1 s1 rv => ?_⟩
        split at q
        · rename_i n hn
          split at q
          · rename_i hsm
            split at q
            · rename_i j hj
              split at q
              · rename_i d hd
                have q4 := s1 _ _ g4
                have g6 := sm_dts s1 g5
                obtain ⟨v', hv, t⟩ := g6.get hd
                split at q
                · exact q.elim
                · rename_i hne
                  simp only [sm, Bool.and_eq_true, decide_eq_true_eq] at hsm
                  refine ⟨a, xs, n, j, v', rfl, by rw [sc_sc rv hn], q4, by omega, by omega, by rw [g5.length]; exact (ixN_seq hj).1, hv, ?_⟩
                  obtain ⟨k, ev⟩ := (eo.up s1).mut (o := .lst (xs.eraseIdx j)) (m' := m) (d' := .list (ds.eraseIdx j)) ei g1 g2 g3 trivial
                    (.lst upd_same (by rw [List.eraseIdx_eq_take_drop_succ, List.eraseIdx_eq_take_drop_succ]; exact ((dts_mut g2 q4 g6).take _).append ((dts_mut g2 q4 g6).drop _))) goa
                  unfold setSl at q
                  split at q
                  · rename_i hz
                    exact q _ _ M (k.set_fr (dts_mut g2 q4 (.cons t .nil)).cons_inv.1 hz) ((Evo.post s1).trans ev)
                  · exact q.elim
              · exact q.elim
            · exact q.elim
          · exact q.elim
        · exact q.elim
      · exact q.elim
    · cases h
  | .raise_ x m, X, E, s, o, h => by
    simp only [okS] at h
    split at h
    · simp only [Bool.and_eq_true, decide_eq_true_eq] at h
      obtain ⟨⟨⟨rfl, rfl⟩, h1⟩, h2⟩ := h
      exact (o.rz x m _ _ _ _ _ h1 (gl_of h2).1).imp fun D σ H ⟨H0, M0, M, env, eo, q⟩ => fun C hC => q C H hC eo.same
    · cases h
  | .dput i kx e, X, E, s, o, h => by
    simp only [okS] at h
    split at h
    · rename_i x p y p2 v pos
      simp only [Bool.and_eq_true, Bool.not_eq_true'] at h
      obtain ⟨⟨⟨h1, h2⟩, h3⟩, h4⟩ := h
      have hu1 : X.A.units + 1 < cLine := by have := o.ok.hu; omega
      refine (ps_dput hu1 (pe_v h1) (sE kx y o.ok h2).1 (sE e v o.ok h3).1 (show swapsWith v (some (.Subscript (.Name x p) y p2)) pos.line X.env = pure false from @sw_sub v (.Name x p) y p2 pos.line X.env)).imp fun D σ H ⟨H0, M0, M, env, eo, q⟩ => ?_
      simp only [evS] at q
      refine ⟨H0, M0, M, env, eo, (Sp.of eo q).imp fun r _ q v H1 s1 rv => ?_⟩
      obtain ⟨pr, es, q⟩ := sp_sto q
      split at q
      · rename_i oa m ds ei
        obtain ⟨a, g1, g2, g3, g4, goa⟩ : ∃ a, σ[i]? = some (some (.ref a)) ∧ M a ∧ H0 a = none ∧ Ob H (Lm H0 M m) a (.dict ds) ∧ ∀ b, oa = some b → b = a := by
          cases w : env[i]? with
          | none => rw [w] at ei; cases ei
          | some sl => rw [w] at ei; exact (eo.sl i _ w).own ei
        refine ⟨_, g1, H0, M0, M, env, eo.up s1, (Sp.of (eo.up s1) q).imp fun r2 _ q u H2 s2 rv2 => ?_⟩
        have s12 := s1.trans s2
        cases ep : dputD ds r2.d pr.2 with
        | none => rw [ep] at q; exact q.elim
        | some es' =>
          rw [ep] at q
          dsimp only at q
          split at q
          · rename_i hz
            have hz := of_decide_eq_true hz
            have t2 : Dt H2 (Lm H0 M (m || pr.1)) v pr.2 := (sm_dt s2 (rv.sto es)).wk fun _ => Lm.orr
            have c2 : Cn H2 (Lm H0 M (m || pr.1)) (.ref a) (.dict ds) := ((sm_ob s12 g4).wk fun _ => Lm.orl).cn
            have up : ∀ {o' : HO} {ws : List V} {fs : List (En.D × En.D)} {u0 : HO}, H2 a = some u0 → Mut (some u0) → Dvs H2 (Lm H0 M (m || pr.1)) ws fs → Dvs (upd H2 a o') (Lm H0 M (m || pr.1)) ws fs := fun {o' ws fs u0} qa mu t => Dvs.go (fun b w l e => ⟨by rw [upd_ne (fun z => l.1 (by rw [z]; exact g2))]; exact e, l⟩) (fun b ys r => by
              have nb : b ≠ a := fun z => by
                rw [z, qa] at r
                cases r
                exact mu
              rw [upd_ne nb]
              exact r) fs ws t
            rcases dput_ok c2 rv2.cn t2 ep hz with ⟨kvs, kvs', q4, g, hk, hv⟩ | ⟨kvs, kvs', q4, g, hk, hv⟩
            · refine ⟨a, _, rfl, g, ?_⟩
              obtain ⟨k', ev⟩ := (eo.up s12).mut (o := .dK kvs') (m' := m || pr.1) (d' := .dict es') ei g1 g2 g3 trivial (.dK upd_same hk (up q4 trivial hv)) goa
              exact q σ _ M k' ((Evo.post s12).trans ev)
            · refine ⟨a, _, rfl, g, ?_⟩
              obtain ⟨k', ev⟩ := (eo.up s12).mut (o := .dT kvs') (m' := m || pr.1) (d' := .dict es') ei g1 g2 g3 trivial (.dT upd_same hk (up q4 trivial hv)) goa
              exact q σ _ M k' ((Evo.post s12).trans ev)
          · exact q.elim
      · exact q.elim
    · cases h
  | .appPop i j kx, X, E, s, o, h => by
    simp only [okS] at h
    split at h
    · rename_i x p m ap y p2 m2 ap2 v cp2 cp pos
      simp only [Bool.and_eq_true, decide_eq_true_eq] at h
      obtain ⟨⟨⟨⟨⟨⟨h1, rfl⟩, h2⟩, h3⟩, rfl⟩, h4⟩, h5⟩ := h
      refine (ps_expr (pe_bm PySem.F.plainAttrs_list PySem.F.slot_list_append PySem.F.type_list_append mt_append (pe_v h1) (pa_cons (pe_bm PySem.F.plainAttrs_list PySem.F.slot_list_pop PySem.F.type_list_pop mt_popAt (pe_v h3) (pa_cons (sE kx v o.ok h5).1 pa_nil (star_cons h5 _ _)) attr_name (few1 h5) h4 (star_cons h5 _ _) rfl) pa_nil) attr_name rfl h2 rfl rfl) rfl).imp fun D σ H ⟨H0, M0, M, env, eo, q⟩ => ?_
      simp only [evS] at q
      split at q
      · rename_i oa m ds ob m' fs ei ej
        obtain ⟨a, xs, g1, g2, g3, g4, g5, goa⟩ := own_at eo ei
        obtain ⟨b, ys, f1, f2, f3, f4, f5, foa⟩ := own_at eo ej
        refine ⟨_, g1, .inl ⟨rfl, xs, .inl (.inl g4)⟩, _, f1, .inl ⟨rfl, ys, .inl (.inl f4)⟩, H0, M0, M, env, eo, (Sp.of eo q).imp fun r _ q w H1 s1 rv => ?_⟩
        split at q
        · rename_i n hn
          split at q
          · rename_i hsm
            split at q
            · rename_i hh hj
              split at q
              · rename_i d hd
                split at q
                · exact q.elim
                · rename_i hne
                  split at q
                  · rename_i hz
                    have hz := of_decide_eq_true hz
                    have q4 := s1 _ _ g4
                    have r4 := s1 _ _ f4
                    have f6 := sm_dts s1 f5
                    obtain ⟨v', hv, t⟩ := f6.get hd
                    simp only [sm, Bool.and_eq_true, decide_eq_true_eq] at hsm
                    have nab : a ≠ b := fun z => hne (eo.dis i j a (by rw [ei]; rfl) (by rw [ej]; rfl) g1 (by rw [z]; exact f1))
                    refine ⟨b, ys, n, hh, v', rfl, by rw [sc_sc rv hn], r4, by omega, by omega, by rw [f5.length]; exact (ixN_seq hj).1, hv, ?_⟩
                    obtain ⟨k, ev⟩ := (eo.up s1).mut (o := .lst (ys.eraseIdx hh)) (m' := m') (d' := .list (fs.eraseIdx hh)) ej f1 f2 f3 trivial
                      (.lst upd_same (by rw [List.eraseIdx_eq_take_drop_succ, List.eraseIdx_eq_take_drop_succ]; exact ((dts_mut f2 r4 f6).take _).append ((dts_mut f2 r4 f6).drop _))) foa
                    have t2 := (dts_mut (o := .lst (ys.eraseIdx hh)) f2 r4 (.cons t .nil)).cons_inv.1
                    have q5 : (upd H1 b (.lst (ys.eraseIdx hh))) a = some (.lst xs) := by rw [upd_ne nab]; exact q4
                    have g6 := dts_mut (o := .lst (ys.eraseIdx hh)) f2 r4 (sm_dts s1 g5)
                    have ei2 : ownAt (env.set j (reow ob m' (.list (fs.eraseIdx hh))))[i]? = some (oa, m, .list ds) := by rw [List.getElem?_set_ne (Ne.symm hne)]; exact ei
                    refine ⟨a, xs, v', rfl, rfl, q5, by rw [g5.length]; exact hz, ?_⟩
                    obtain ⟨k2, ev2⟩ := k.mut (o := .lst (xs ++ [v'])) (m' := m || m') (d' := .list (ds ++ [d])) ei2 g1 g2 g3 trivial
                      (.lst upd_same ((dts_mut g2 q5 (g6.wk fun _ => Lm.orl)).append (dts_mut g2 q5 (.cons (t2.wk fun _ => Lm.orr) .nil)))) goa
                    exact q σ _ M k2 (((Evo.post s1).trans ev).trans ev2)
                  · exact q.elim
              · exact q.elim
            · exact q.elim
          · exact q.elim
        · exact q.elim
      · exact q.elim
    · cases h
  | .appTPop i e j kx, X, E, s, o, h => by
    simp only [okS] at h
    split at h
    · rename_i x p m ap u y p2 m2 ap2 v cp2 kt pt cp pos
      simp only [Bool.and_eq_true, decide_eq_true_eq] at h
      obtain ⟨⟨⟨⟨⟨⟨⟨h1, rfl⟩, h2⟩, h6⟩, h3⟩, rfl⟩, h4⟩, h5⟩ := h
      refine (ps_expr (pe_bm PySem.F.plainAttrs_list PySem.F.slot_list_append PySem.F.type_list_append mt_append (pe_v h1) (pa_cons (pe_tup (pa_cons (sE e u o.ok h6).1 (pa_cons (pe_bm PySem.F.plainAttrs_list PySem.F.slot_list_pop PySem.F.type_list_pop mt_popAt (pe_v h3) (pa_cons (sE kx v o.ok h5).1 pa_nil (star_cons h5 _ _)) attr_name (few1 h5) h4 (star_cons h5 _ _) rfl) pa_nil) (star_cons h6 _ _))) pa_nil) attr_name rfl h2 rfl rfl) rfl).imp fun D σ H ⟨H0, M0, M, env, eo, q⟩ => ?_
      simp only [evS] at q
      split at q
      · rename_i oa m ds ob m' fs ei ej
        obtain ⟨a, xs, g1, g2, g3, g4, g5, goa⟩ := own_at eo ei
        obtain ⟨b, ys, f1, f2, f3, f4, f5, foa⟩ := own_at eo ej
        refine ⟨_, g1, .inl ⟨rfl, xs, .inl (.inl g4)⟩, H0, M0, M, env, eo, (Sp.of eo q).imp fun re _ q we He se rve => ?_⟩
        obtain ⟨pr, es, q⟩ := sp_sto q
        refine ⟨_, f1, .inl ⟨rfl, ys, .inl (.inl (se _ _ f4))⟩, H0, M0, M, env, eo.up se, (Sp.of (eo.up se) q).imp fun r _ q w H1 s0 rv => ?_⟩
        have s1 := se.trans s0
        have te := sm_dt s0 (rve.sto es)
        split at q
        · rename_i n hn
          split at q
          · rename_i hsm
            split at q
            · rename_i hh hj
              split at q
              · rename_i d hd
                split at q
                · exact q.elim
                · rename_i hne
                  split at q
                  · rename_i hz
                    have hz := of_decide_eq_true hz
                    have q4 := s1 _ _ g4
                    have r4 := s1 _ _ f4
                    have f6 := sm_dts s1 f5
                    obtain ⟨v', hv, t⟩ := f6.get hd
                    simp only [sm, Bool.and_eq_true, decide_eq_true_eq] at hsm
                    have nab : a ≠ b := fun z => hne (eo.dis i j a (by rw [ei]; rfl) (by rw [ej]; rfl) g1 (by rw [z]; exact f1))
                    refine ⟨b, ys, n, hh, v', rfl, by rw [sc_sc rv hn], r4, by omega, by omega, by rw [f5.length]; exact (ixN_seq hj).1, hv, (by show 2 ≤ sizeLine; decide), fun tp htp => ?_⟩
                    obtain ⟨k, ev⟩ := (eo.up s1).mut (o := .lst (ys.eraseIdx hh)) (m' := m') (d' := .list (fs.eraseIdx hh)) ej f1 f2 f3 trivial
                      (.lst upd_same (by rw [List.eraseIdx_eq_take_drop_succ, List.eraseIdx_eq_take_drop_succ]; exact ((dts_mut f2 r4 f6).take _).append ((dts_mut f2 r4 f6).drop _))) foa
                    have t2 := (dts_mut (o := .lst (ys.eraseIdx hh)) f2 r4 (.cons t .nil)).cons_inv.1
                    have te2 := (dts_mut (o := .lst (ys.eraseIdx hh)) f2 r4 (.cons te .nil)).cons_inv.1
                    have q5 : (upd H1 b (.lst (ys.eraseIdx hh))) a = some (.lst xs) := by rw [upd_ne nab]; exact q4
                    have sn := same_new (o := HO.tup [we, v']) htp
                    have q6 := sn _ _ q5
                    have g6 := sm_dts sn (dts_mut (o := .lst (ys.eraseIdx hh)) f2 r4 (sm_dts s1 g5))
                    have ei2 : ownAt (env.set j (reow ob m' (.list (fs.eraseIdx hh))))[i]? = some (oa, m, .list ds) := by rw [List.getElem?_set_ne (Ne.symm hne)]; exact ei
                    refine ⟨a, xs, .ref tp, rfl, rfl, q6, by rw [g5.length]; exact hz, ?_⟩
                    have tt : Dt _ (Lm H0 M (m || (pr.1 || m'))) (.ref tp) (.tuple [pr.2, d]) := .tup (upd_same (o := HO.tup [we, v'])) (.cons ((sm_dt sn te2).wk fun _ q => Lm.orr (Lm.orl q)) (.cons ((sm_dt sn t2).wk fun _ q => Lm.orr (Lm.orr q)) .nil))
                    obtain ⟨k2, ev2⟩ := (k.up sn).mut (o := .lst (xs ++ [.ref tp])) (m' := m || (pr.1 || m')) (d' := .list (ds ++ [.tuple [pr.2, d]])) ei2 g1 g2 g3 trivial
                      (.lst upd_same ((dts_mut g2 q6 (g6.wk fun _ => Lm.orl)).append (dts_mut g2 q6 (.cons tt .nil)))) goa
                    exact q σ _ M k2 ((((Evo.post s1).trans ev).trans (Evo.post sn)).trans ev2)
                  · exact q.elim
              · exact q.elim
            · exact q.elim
          · exact q.elim
        · exact q.elim
      · exact q.elim
    · cases h
  | .popX i kx, X, E, s, o, h => by
    simp only [okS] at h
    split at h
    · rename_i y p2 m ap v cp pos
      simp only [Bool.and_eq_true, decide_eq_true_eq] at h
      obtain ⟨⟨⟨h2, rfl⟩, h3⟩, h4⟩ := h
      refine (ps_expr (pe_bm PySem.F.plainAttrs_list PySem.F.slot_list_pop PySem.F.type_list_pop mt_popAt (pe_v h2) (pa_cons (sE kx v o.ok h4).1 pa_nil (star_cons h4 _ _)) attr_name (few1 h4) h3 (star_cons h4 _ _) rfl) rfl).imp fun D σ H ⟨H0, M0, M, env, eo, q⟩ => ?_
      simp only [evS] at q
      split at q
      · rename_i oa m ds ei
        obtain ⟨a, xs, g1, g2, g3, g4, g5, goa⟩ := own_at eo ei
        refine ⟨_, g1, .inl ⟨rfl, xs, .inl (.inl g4)⟩, H0, M0, M, env, eo, (Sp.of eo q).imp fun r _ q w H1 s1 rv => ?_⟩
        split at q
        · rename_i n hn
          split at q
          · rename_i hsm
            split at q
            · rename_i j hj
              have q4 := s1 _ _ g4
              have g6 := sm_dts s1 g5
              have hlt : j < ds.length := (ixN_seq hj).2.1
              have hd : ds[j]? = some ds[j] := List.getElem?_eq_getElem hlt
              obtain ⟨v', hv, t⟩ := g6.get hd
              simp only [sm, Bool.and_eq_true, decide_eq_true_eq] at hsm
              refine ⟨a, xs, n, j, v', rfl, by rw [sc_sc rv hn], q4, by omega, by omega, by rw [g5.length]; exact (ixN_seq hj).1, hv, ?_⟩
              obtain ⟨k, ev⟩ := (eo.up s1).mut (o := .lst (xs.eraseIdx j)) (m' := m) (d' := .list (ds.eraseIdx j)) ei g1 g2 g3 trivial
                (.lst upd_same (by rw [List.eraseIdx_eq_take_drop_succ, List.eraseIdx_eq_take_drop_succ]; exact ((dts_mut g2 q4 g6).take _).append ((dts_mut g2 q4 g6).drop _))) goa
              exact q _ _ M k ((Evo.post s1).trans ev)
            · exact q.elim
          · exact q.elim
        · exact q.elim
      · exact q.elim
    · cases h
  | .mc f ms, X, E, s, o, h => mc_ok f ms o h
  | .mov i j, X, E, s, o, h => by
    simp only [okS] at h
    split at h
    · simp only [Bool.and_eq_true] at h
      obtain ⟨w1, w2⟩ := tg_loc h.1
      refine (ps_set o.ok.nd w1 w2 (pe_v h.2) rfl (.inl (o.fn _))).imp fun D σ H ⟨H0, M0, M, env, eo, q⟩ => ?_
      simp only [evS] at q
      split at q
      · rename_i m d e
        split at q
        · rename_i hc
          obtain ⟨a, h1, h2, h3, t⟩ := eo.sl j _ e
          exact ⟨_, h1, q _ H M (eo.move e h1 hc.1 hc.2) (Evo.refl _ _)⟩
        · exact q.elim
      · exact q.elim
    · cases h
  | .try_ b tb n sx, X, E, s, o, h => by
    simp only [okS] at h
    refine (try_ok o h).imp fun D σ H ⟨H0, M0, M, env, eo, q⟩ => ?_
    simp only [evS] at q
    exact ⟨H0, M0, M, env, eo, q⟩
  | .brk, X, E, s, o, h => by
    simp only [okS] at h
    split at h
    · exact ps_break.imp fun D σ H ⟨H0, M0, M, env, eo, q⟩ => q σ H M eo (Evo.refl _ _)
    · cases h
  | .cnt, X, E, s, o, h => by
    simp only [okS] at h
    split at h
    · exact ps_continue.imp fun D σ H ⟨H0, M0, M, env, eo, q⟩ => q σ H M eo (Evo.refl _ _)
    · cases h
  | .never, X, E, s, o, h => ⟨fun pins s' σ H D I ⟨H0, M0, M, env, eo, q⟩ => by
      simp only [evS] at q
      exact q.elim⟩
theorem sSs : ∀ (m : MSs) {X : Cx} {E : XK} (s : List Stmt), OkS X Γ E k ex → okSs ex X.N X.env.scope m s = true → PSs X s (tSs Γ fuel E X.mg m)
  | .nil, X, E, s, o, h => by
    simp only [okSs] at h
    split at h
    · exact pss_nil.imp fun D σ H ⟨H0, M0, M, env, eo, q⟩ => q σ H M eo (Evo.refl _ _)
    · cases h
  | .cons m r, X, E, s, o, h => by
    simp only [okSs] at h
    split at h
    · simp only [Bool.and_eq_true] at h
      refine (pss_cons (sS m _ o h.1) (sSs r _ o h.2)).imp fun D σ H ⟨H0, M0, M, env, eo, q⟩ => ?_
      simp only [evSs] at q
      exact ⟨H0, M0, M, env, eo, q.then fun env' σ' H' M' q' k' e' => ⟨H0, M0, M', env', k', q'.base e'⟩⟩
    · cases h
  | .frz i r, X, E, s, o, h => by
    simp only [okSs] at h
    refine (sSs r s o h).imp fun D σ H ⟨H0, M0, M, env, eo, q⟩ => ?_
    simp only [evSs] at q
    split at q
    · rename_i m d e
      obtain ⟨a, h1, h2, h3, t⟩ := eo.sl i _ e
      obtain ⟨k, ev⟩ := eo.freeze e h1 h3 t
      exact ⟨H0, M0, _, _, k, q.base ev⟩
    · exact q.elim
end
end
end En

set_option Elab.async false
set_option linter.all false
set_option maxRecDepth 100000
set_option maxHeartbeats 4000000
namespace En
open PySem PySem.Spec PyProof.Rows L2

/-! ### a def by its mini-text -/
theorem startE_len {n : Nat} {ds : List D} (h : ds.length ≤ n) : (startE n ds).length = n := by
  unfold startE
  rw [List.length_append, List.length_map, List.length_replicate]
  omega
theorem start_len {N : List Str} {vs : List V} (h : vs.length ≤ N.length) : (L2.start N vs).length = N.length := by
  unfold L2.start
  rw [List.length_append, List.length_map, List.length_replicate]
  omega
theorem env_start {H : Hp} {M : AS} {N : List Str} {vs : List V} {ds : List D} (hM : ∀ a, M a → ∃ o, H a = some o ∧ Mut (some o)) (h : Dts H (fun a => ¬ M a) vs ds) (hl : vs.length ≤ N.length) : EnvOk H M H M (L2.start N vs) (startE N.length ds) := by
  have hd : ds.length ≤ N.length := by rw [← h.length]; exact hl
  refine ⟨by rw [start_len hl, startE_len hd], Same.refl _, fun a m => ⟨m, fun z => ?_⟩, hM, fun i s e => ?_, fun i j a e1 => ?_⟩
  · obtain ⟨o, q, _⟩ := hM a m
    rw [z] at q
    cases q
  · by_cases hi : i < ds.length
    · unfold startE at e
      rw [List.getElem?_append_left (by simpa using hi), List.getElem?_map] at e
      cases e1 : ds[i]? with
      | none => rw [e1] at e; cases e
      | some d =>
        rw [e1] at e
        cases e
        obtain ⟨v, e2, t⟩ := h.get e1
        refine ⟨v, ?_, ?_⟩
        · unfold L2.start
          rw [List.getElem?_append_left (by rw [List.length_map, h.length]; exact hi), List.getElem?_map, e2]
          rfl
        · cases q : imm d with
          | true => exact Dt.imm d v q t
          | false => exact t.wk fun a l => ⟨l, fun z => by cases z⟩
    · unfold startE at e
      rw [List.getElem?_append_right (by simpa using hi)] at e
      have := List.mem_of_getElem? e
      rw [List.mem_replicate] at this
      rw [this.2]
      trivial
  · exfalso
    cases q : (startE N.length ds)[i]? with
    | none => rw [q] at e1; cases e1
    | some s =>
      rw [q] at e1
      have hm := List.mem_of_getElem? q
      unfold startE at hm
      rw [List.mem_append, List.mem_map, List.mem_replicate] at hm
      rcases hm with ⟨d, _, rfl⟩ | ⟨_, rfl⟩ <;> cases e1

section
variable {P : Program} {w : World} {K : PySem.W.Frag} {mg : Str → Option Value} {base : Heap}
/-- the builtins' names stand unshadowed -/
def Blt (mg : Str → Option Value) : Prop := ∀ f : Str, f ∈ ([("len" : Str), "list", "tuple", "sum", "min", "max", "int", "any", "all", "sorted", "isinstance", "range", "zip", "enumerate", "reversed", "str", "bool", "set", "dict"] : List Str) → mg f = none
/-- the table of the defs -/
def FnsOk (P : Program) (w : World) (K : PySem.W.Frag) (mg : Str → Option Value) (base : Heap) (k : Nat) (Γ : FT) : Prop :=
  ∀ f n g, Γ f = some (n, g) → ∃ fa fd ps, FnOk P w K mg base (L2.CX P w) k fa fd ps (spG mg n g) ∧ mg f = some (.ref fa) ∧ PySem.W.keepIn K (.ref fa) = true ∧ Binds K fd ps []
/-- the refusals -/
structure RzOk (ex : Ex) (mg : Str → Option Value) (P : Program) (w : World) (K : PySem.W.Frag) (base : Heap) : Prop where
  rz : ∀ (X : Cx) (E : XK) (x m : Str) (j : Nat) (p p2 p3 pos : Pos), X.prog = P → X.w = w → X.K = K → X.mg = mg → X.calm = true → Takes X (fun c d _ H => E c d H) → x ∈ ex.rz → Gl X x → PS X (.Raise (some (.Call (.Name x p) [.Constant (.str m) j p2] [] p3)) none pos) (fun _ _ H => ∀ C, mg x = some (.ref C) → E (.ref C) none H)
  cl : ∀ T, T ∈ ex.cl → ∃ cT, mg T = some (.ref cT)
  xf : ∀ x, x ∈ ex.xs → ∀ C, mg x = some (.ref C) → XFact ex mg P w K base x C
theorem sp_run {E : XK} {H : Hp} {M : AS} {Q : VK} {Γ : FT} {fuel : Nat} {f : MF} {ds : List D} {vs : List V} (h : Rp E mg H (runF Γ fuel f ds) (RetOk H M vs ds Q)) :
    Sp E mg { nx := fun _ H' => Q .non H', rt := Q } H M H M (evSs Γ fuel f.body (startE f.slots ds)) := by
  unfold runF at h
  split at h <;> rename_i e <;> rw [e]
  · exact h
  · exact h
  · exact fun σ' H' M' k _ => h _ _ k.same (show RvOk _ _ _ _ V.non (.fr false .none) from .non)
  · refine fun v H' M' s m q => h.get v H' s ?_
    have wk : ∀ {m' : Bool} (a : Addr), Lm H M' m' a → Lm H M m' a := fun {m'} a l => ⟨fun z => l.1 (m a z), l.2⟩
    cases ‹Rv› with
    | fr b d => exact Dt.wk wk q
    | ow b d =>
      obtain ⟨a, x, y, z, u, t⟩ := q
      exact ⟨a, x, y, fun z' => z (m a z'), u, t.wk fun c l => ⟨wk c l.1, l.2⟩⟩
    | bo b d => exact q.wk wk
    | mt _ _ => exact q.elim
  · exact h.elim
  · exact h.elim
theorem fn_ok {x qual : Str} {st : Stmt} {fa : Addr} {fd : FuncData} {N ps : List Str} {k : Nat} {Γ : FT} {ex : Ex} (F : Fun K x qual st fa fd) (S : FnScope N ps (defScope st)) (mf : MF) (hn : mf.slots = N.length) (hp : ps.length ≤ N.length) (fuel : List D → Nat)
    (hc : okSs ex N (defScope st) mf.body (defBody st) = true) (blt : Blt mg) (fns : FnsOk P w K mg base k Γ) (rz : RzOk ex mg P w K base) :
    FnOk P w K mg base (L2.CX P w) (k + 3) fa fd ps (spG mg ps.length fun ds => runF Γ (fuel ds) mf ds) := by
  refine F.okX S (fun vs H Q E h => h.1) (fun cdv A outer s H vs Q E hr h => ?_)
  obtain ⟨hl, M, ds, hM, hD, h⟩ := h
  have tk : Takes (cxOf (L2.CX P w) P w K mg base N qual (defScope st) fa cdv A outer s H E) (fun c d _ H => E c d H) := takes_of rfl rfl rfl rfl
  have o : OkS (cxOf (L2.CX P w) P w K mg base N qual (defScope st) fa cdv A outer s H E) Γ E k ex :=
    ⟨⟨rfl, S.nd, by have := hr.un; show (A.deeper _).units + 65 < cLine; omega, hr, tk, blt, fns⟩, fun _ => rfl, S.kind, passes_of rfl, fun x m j p p2 p3 pos hx hg => rz.rz _ E x m j p p2 p3 pos rfl rfl rfl rfl rfl tk hx hg, rfl, rfl, rz.cl, rz.xf⟩
  refine ⟨_, sSs mf.body (defBody st) o hc, H, M, M, startE mf.slots ds, ?_, sp_run h⟩
  rw [hn]
  exact env_start hM hD (by rw [hl]; exact hp)
end
end En

set_option Elab.async false
set_option linter.all false
set_option maxRecDepth 100000
set_option maxHeartbeats 4000000
namespace En
open PySem PySem.Spec PyProof.Rows L2

/-! ### a table of defs, one behind the other -/
/-- a def stands at the top -/
def Has (K : PySem.W.Frag) (mg : Str → Option Value) (x : Str) (st : Stmt) (ps : List Str) : Prop := ∃ fa fd, Fun K x x st fa fd ∧ mg x = some (.ref fa) ∧ Binds K fd ps []
def put (Γ : FT) (x : Str) (n : Nat) (g : List D → R Rv) : FT := fun y => if y = x then some (n, g) else Γ y
theorem put_self {Γ : FT} {x : Str} {n : Nat} {g : List D → R Rv} : put Γ x n g x = some (n, g) := if_pos rfl
theorem put_ne {Γ : FT} {x y : Str} {n : Nat} {g : List D → R Rv} (h : decide (y = x) = false) : put Γ x n g y = Γ y := if_neg (of_decide_eq_false h)
section
variable {P : Program} {w : World} {K : PySem.W.Frag} {mg : Str → Option Value} {base : Heap}
theorem fns0 : FnsOk P w K mg base 0 fun _ => none := fun f n g h => nomatch h
theorem fns_put {x : Str} {st : Stmt} {N ps : List Str} {k : Nat} {Γ : FT} {ex : Ex} (G : FnsOk P w K mg base k Γ) (h : Has K mg x st ps) (S : FnScope N ps (defScope st)) (mf : MF) (fuel : List D → Nat)
    (hc : (decide (mf.slots = N.length) && decide (ps.length ≤ N.length) && okSs ex N (defScope st) mf.body (defBody st)) = true) (blt : Blt mg) (rz : RzOk ex mg P w K base) :
    FnsOk P w K mg base (k + 3) (put Γ x ps.length fun ds => runF Γ (fuel ds) mf ds) := by
  obtain ⟨fa, fd, F, hm, hb⟩ := h
  simp only [Bool.and_eq_true, decide_eq_true_eq] at hc
  have F2 := fn_ok (P := P) (w := w) (base := base) F S mf hc.1.1 hc.1.2 fuel hc.2 blt G rz
  intro f n g e
  unfold put at e
  split at e
  · rename_i e1
    subst e1
    cases e
    exact ⟨fa, fd, ps, F2, hm, F.kp, hb⟩
  · obtain ⟨fa, fd, ps, F3, q⟩ := G f n g e
    exact ⟨fa, fd, ps, F3.mono (by omega), q⟩
theorem rz0 : RzOk (exL []) mg P w K base := ⟨(fun X E x m j p p2 p3 pos _ _ _ _ _ _ hx => nomatch hx), (fun T h => nomatch h), (fun x h => nomatch h)⟩
/-- the law's own promise -/
def spLaw (K : PySem.W.Frag) : L2.Sp := fun vs H Q _ => ∃ (a : Addr) (ns : List Int), vs = [.ref a] ∧ SqL K H a (ns.map V.int) ∧ ns.length ≤ 63 ∧ Only H ∧ ∀ H', Q (.bl true) H'
def noList (K : PySem.W.Frag) : Bool := K.all fun p => !(p.2.cls == .type "list")
theorem noList_lookup {K : PySem.W.Frag} (h : noList K = true) {a : Addr} {o : Obj} (e : K.lookup a = some o) : o.cls ≠ .type "list" := by
  unfold noList at h
  induction K with
  | nil => cases e
  | cons p r ih =>
    obtain ⟨b, x⟩ := p
    rw [List.all_cons, Bool.and_eq_true] at h
    rw [List.lookup_cons] at e
    cases hb : a == b with
    | true =>
      rw [hb] at e
      cases e
      intro z
      have := h.1
      simp [z] at this
    | false =>
      rw [hb] at e
      exact ih h.2 e
theorem ints_dts2 {H : Hp} {L : AS} : ∀ ns : List Int, Dts H L (ns.map V.int) (ns.map PyData.int)
  | [] => .nil
  | n :: ns => .cons (.int n) (ints_dts2 ns)
theorem ok_and {a b c : Bool} (h : (a && b && c) = true) : c = true := by simp only [Bool.and_eq_true] at h; exact h.2
theorem law_one {k : Nat} {fa : Addr} {fd : FuncData} {ps : List Str} {g : List D → R Rv} (F : FnOk P w K mg base (L2.CX P w) k fa fd ps (spG mg ps.length g)) (nl : noList K = true) (hp : ps.length = 1 := by rfl)
    (hg : ∀ ns : List Int, ns.length ≤ 63 → g [.list (ns.map .int)] = .ok (.fr false (.bool true))) : FnOk P w K mg base (L2.CX P w) k fa fd ps (spLaw K) := by
  refine F.imp fun vs H Q E h => ?_
  obtain ⟨a, ns, rfl, hS, hl, hO, q⟩ := h
  refine ⟨hp.symm, fun _ => False, [.list (ns.map .int)], fun a h => h.elim, ?_, ?_⟩
  · rcases hS with r | ⟨o, its, n, e, hc, _⟩
    · exact .cons (.lst (fun h => h) r (ints_dts2 ns)) .nil
    · exact absurd hc (noList_lookup nl e)
  · rw [hg ns hl]
    intro v H' s rv
    have rv : Dt H' _ v (.bool true) := rv
    cases rv
    exact q H'
theorem cx_end {P : Program} {w : World} {H : Hp} {s s' : Shared} {e : Value} (h : L2.CX P w [] H s (fun _ _ _ => False) e s') : False := by
  obtain ⟨_, _, _, _, _, _, _, _, _, _, _, _, z⟩ := h
  exact z
end
end En

set_option Elab.async false
set_option linter.all false
set_option maxRecDepth 100000
set_option maxHeartbeats 4000000
namespace En
open PySem PySem.Spec PyProof.Rows L2

/-! ### the run's laws, for simp: they fire on what is told, not on what is open -/
section
variable {α β : Type} {Γ : FT} {fuel : Nat} {env : List Sl}
@[simp] theorem bind_ok' (a : α) (f : α → R β) : (R.ok a).bind f = f a := (rfl)
@[simp] theorem bind_err' (x : Str) (f : α → R β) : (R.err x : R α).bind f = .err x := (rfl)
@[simp] theorem bind_ite (c : Prop) [Decidable c] (a b : R α) (f : α → R β) : (if c then a else b).bind f = if c then a.bind f else b.bind f := by split <;> rfl
@[simp] theorem then_next (e : List Sl) (f : List Sl → Fl) : (Fl.next e).then f = f e := (rfl)
@[simp] theorem then_ret (r : Rv) (f : List Sl → Fl) : (Fl.ret r).then f = .ret r := (rfl)
@[simp] theorem then_err (r : Str) (f : List Sl → Fl) : (Fl.err r).then f = .err r := (rfl)
@[simp] theorem then_brk (e : List Sl) (f : List Sl → Fl) : (Fl.brk e).then f = .brk e := (rfl)
@[simp] theorem then_cnt (e : List Sl) (f : List Sl → Fl) : (Fl.cnt e).then f = .cnt e := (rfl)
@[simp] theorem then_ite (c : Prop) [Decidable c] (a b : Fl) (f : List Sl → Fl) : (if c then a else b).then f = if c then a.then f else b.then f := by split <;> rfl
@[simp] theorem of_ok' (a : α) (f : α → Fl) : Fl.of (.ok a) f = f a := (rfl)
@[simp] theorem of_err' (x : Str) (f : α → Fl) : Fl.of (.err x : R α) f = .err x := (rfl)
@[simp] theorem of_ite (c : Prop) [Decidable c] (a b : R α) (f : α → Fl) : Fl.of (if c then a else b) f = if c then Fl.of a f else Fl.of b f := by split <;> rfl
-- statements
@[simp] theorem ss_nil : evSs Γ fuel .nil env = .next env := by rw [evSs]
@[simp] theorem ss_cons (s : MS) (r : MSs) : evSs Γ fuel (.cons s r) env = (evS Γ fuel s env).then fun e => evSs Γ fuel r e := by rw [evSs]
def frzR (o : Option Sl) (i : Nat) (env : List Sl) (f : List Sl → Fl) : Fl := match o with
  | some (.ow m d) => f (env.set i (.fr m d))
  | _ => .bad
@[simp] theorem frzR_ow (m : Bool) (d : D) (i : Nat) (f : List Sl → Fl) : frzR (some (.ow m d)) i env f = f (env.set i (.fr m d)) := (rfl)
@[simp] theorem ss_frz (i : Nat) (r : MSs) : evSs Γ fuel (.frz i r) env = frzR env[i]? i env (evSs Γ fuel r) := by rw [evSs]; rfl
@[simp] theorem s_skip : evS Γ fuel .skip env = .next env := by rw [evS]
@[simp] theorem s_set (i : Nat) (e : ME) (own : Bool) : evS Γ fuel (.set i e own) env = .of (evE Γ env e) (put1 own i env) := by rw [evS]
def unpR (x : Rv) (l : List Nat) (env : List Sl) : Fl := if isBo x then .bad else match x.d with
  | .tuple ds => .of (setAll x.m l ds env) .next
  | .list ds => .of (setAll x.m l ds env) .next
  | _ => .bad
@[simp] theorem unpR_lf (m : Bool) (ds : List D) (l : List Nat) : unpR (.fr m (.list ds)) l env = .of (setAll m l ds env) .next := (rfl)
@[simp] theorem unpR_lo (m : Bool) (ds : List D) (l : List Nat) : unpR (.ow m (.list ds)) l env = .of (setAll m l ds env) .next := (rfl)
@[simp] theorem unpR_fr (m : Bool) (ds : List D) (l : List Nat) : unpR (.fr m (.tuple ds)) l env = .of (setAll m l ds env) .next := (rfl)
@[simp] theorem s_unp (l : List Nat) (e : ME) : evS Γ fuel (.unp l e) env = .of (evE Γ env e) fun x => unpR x l env := by rw [evS]; rfl
@[simp] theorem s_par (i j : Nat) (a b : ME) : evS Γ fuel (.par i j a b) env = .of (evEs Γ env (.cons a (.cons b .nil))) fun rs => .of (stos rs) fun p => .of (setAll p.1 [i, j] p.2 env) .next := by rw [evS]
def retR (x : Rv) : Fl := if isBo x then .bad else .ret x
@[simp] theorem retR_fr (m : Bool) (d : D) : retR (.fr m d) = .ret (.fr m d) := (rfl)
@[simp] theorem retR_ow (m : Bool) (d : D) : retR (.ow m d) = .ret (.ow m d) := (rfl)
@[simp] theorem s_ret (e : ME) : evS Γ fuel (.ret e) env = .of (evE Γ env e) retR := by rw [evS]; rfl
@[simp] theorem s_retN : evS Γ fuel .retN env = .ret (.fr false .none) := by rw [evS]
def retoR (o : Option Sl) : Fl := match o with
  | some (.ow m d) => .ret (.ow m d)
  | _ => .bad
@[simp] theorem retoR_ow (m : Bool) (d : D) : retoR (some (.ow m d)) = .ret (.ow m d) := (rfl)
@[simp] theorem s_reto (i : Nat) : evS Γ fuel (.reto i) env = retoR env[i]? := by rw [evS]; rfl
def ifR (t : Bool) (a b : Fl) : Fl := if t then a else b
@[simp] theorem ifR_t (a b : Fl) : ifR true a b = a := (rfl)
@[simp] theorem ifR_f (a b : Fl) : ifR false a b = b := (rfl)
@[simp] theorem s_ife (c : ME) (a b : MSs) : evS Γ fuel (.ife c a b) env = .of ((evE Γ env c).bind truth) fun t => ifR t (evSs Γ fuel a env) (evSs Γ fuel b env) := by rw [evS]; rfl
@[simp] theorem s_for (g : MG) (it : MI) (b : MSs) : evS Γ fuel (.for_ g it b) env = .of (evI Γ env it) fun p => forR (fun d e => .of (bindG g p.1 d e) fun e' => evSs Γ fuel b e') p.2 env := by rw [evS]
@[simp] theorem s_whl (c : ME) (b : MSs) : evS Γ fuel (.whl c b) env = whlR (fun e => (evE Γ e c).bind truth) (fun e => evSs Γ fuel b e) fuel env := by rw [evS]
@[simp] theorem s_exp (e : ME) : evS Γ fuel (.exp e) env = .of (evE Γ env e) fun _ => .next env := by rw [evS]
def appR (o : Option Sl) (i : Nat) (env : List Sl) (x : R Rv) : Fl := match ownAt o with
    | some (oa, m, .list ds) => .of x fun x => .of (sto x) fun p => if decide (ds.length < sizeLine) then .next (env.set i (reow oa (m || p.1) (.list (ds ++ [p.2])))) else .bad
    | _ => .bad
@[simp] theorem appR_ow (m : Bool) (ds : List D) (i : Nat) (x : R Rv) : appR (some (.ow m (.list ds))) i env x = .of x fun x => .of (sto x) fun p => if ds.length < sizeLine then .next (env.set i (.ow (m || p.1) (.list (ds ++ [p.2])))) else .bad := by
  simp only [appR, ownAt, reow, decide_eq_true_eq]
@[simp] theorem appR_ko (a : Addr) (m : Bool) (ds : List D) (i : Nat) (x : R Rv) : appR (some (.ko a m (.list ds))) i env x = .of x fun x => .of (sto x) fun p => if ds.length < sizeLine then .next (env.set i (.ko a (m || p.1) (.list (ds ++ [p.2])))) else .bad := by
  simp only [appR, ownAt, reow, decide_eq_true_eq]
@[simp] theorem s_app (i : Nat) (e : ME) : evS Γ fuel (.app i e) env = appR env[i]? i env (evE Γ env e) := by rw [evS]; rfl
def extR (o : Option Sl) (i : Nat) (env : List Sl) (x : R Rv) : Fl := match ownAt o with
    | some (oa, m, .list ds) => .of x fun x => match x.d with
      | .list es => if fits (ds.length + es.length) then .next (env.set i (reow oa (m || x.m) (.list (ds ++ es)))) else .bad
      | _ => .bad
    | _ => .bad
def extL (m : Bool) (ds : List D) (i : Nat) (env : List Sl) (m' : Bool) : D → Fl
  | .list es => if ds.length + es.length ≤ sizeLine then .next (env.set i (.ow (m || m') (.list (ds ++ es)))) else .bad
  | _ => .bad
@[simp] theorem extR_ow (m : Bool) (ds : List D) (i : Nat) (x : R Rv) : extR (some (.ow m (.list ds))) i env x = .of x fun x => extL m ds i env x.m x.d := by
  simp only [extR, ownAt]
  congr 1
  funext x
  cases x.d <;> simp [extL, fits, reow]
@[simp] theorem extL_list (m m' : Bool) (ds es : List D) (i : Nat) : extL m ds i env m' (.list es) = if ds.length + es.length ≤ sizeLine then .next (env.set i (.ow (m || m') (.list (ds ++ es)))) else .bad := (rfl)
@[simp] theorem s_ext (i : Nat) (e : ME) : evS Γ fuel (.ext i e) env = extR env[i]? i env (evE Γ env e) := by rw [evS]; rfl
def dputR (o : Option Sl) (i : Nat) (env : List Sl) (x : R Rv) (y : R Rv) : Fl := .of x fun x => .of (sto x) fun p => match ownAt o with
  | some (oa, m, .dict es) => .of y fun y => match dputD es y.d p.2 with
    | some es' => if decide (es.length < sizeLine) then .next (env.set i (reow oa (m || p.1) (.dict es'))) else .bad
    | none => .bad
  | _ => .bad
@[simp] theorem s_dput (i : Nat) (k e : ME) : evS Γ fuel (.dput i k e) env = dputR env[i]? i env (evE Γ env e) (evE Γ env k) := by rw [evS]; rfl
@[simp] theorem s_raise (x m : Str) : evS Γ fuel (.raise_ x m) env = .err x := by rw [evS]
@[simp] theorem s_never : evS Γ fuel .never env = .bad := by rw [evS]
@[simp] theorem s_brk : evS Γ fuel .brk env = .brk env := by rw [evS]
@[simp] theorem s_cnt : evS Γ fuel .cnt env = .cnt env := by rw [evS]
-- stores
@[simp] theorem put1_fr (i : Nat) (m : Bool) (d : D) : put1 false i env (.fr m d) = setSl env i (.fr m d) := (rfl)
@[simp] theorem put1_ow (i : Nat) (m : Bool) (d : D) : put1 true i env (.ow m d) = setSl env i (.ow m d) := (rfl)
@[simp] theorem put1_of (i : Nat) (m : Bool) (d : D) : put1 false i env (.ow m d) = setSl env i (.fr m d) := (rfl)
@[simp] theorem setSl_c (i : Nat) (s : Sl) : setSl env i s = if i < env.length then .next (env.set i s) else .bad := (rfl)
@[simp] theorem setAll_nil (m : Bool) : setAll m [] [] env = .ok env := (rfl)
@[simp] theorem setAll_cons (m : Bool) (i : Nat) (is : List Nat) (d : D) (ds : List D) : setAll m (i :: is) (d :: ds) env = if i < env.length then setAll m is ds (env.set i (.fr m d)) else .bad := (rfl)
@[simp] theorem bindG_n (i : Nat) (m : Bool) (d : D) : bindG (.n i) m d env = if i < env.length then .ok (env.set i (.fr m d)) else .bad := (rfl)
@[simp] theorem bindG_t (l : List Nat) (m : Bool) (ds : List D) : bindG (.t l) m (.tuple ds) env = setAll m l ds env := (rfl)
-- expressions
def getR (o : Option Sl) : R Rv := match o with
  | some (.fr m d) => .ok (.fr m d)
  | some (.ow m d) => .ok (.bo m d)
  | some (.kn _ m d) => .ok (.fr m d)
  | some (.ko _ m d) => .ok (.bo m d)
  | _ => .bad
@[simp] theorem getR_fr (m : Bool) (d : D) : getR (some (.fr m d)) = .ok (.fr m d) := (rfl)
@[simp] theorem getR_kn (v : V) (m : Bool) (d : D) : getR (some (.kn v m d)) = .ok (.fr m d) := (rfl)
@[simp] theorem getR_ko (a : Addr) (m : Bool) (d : D) : getR (some (.ko a m d)) = .ok (.bo m d) := (rfl)
@[simp] theorem getR_ow (m : Bool) (d : D) : getR (some (.ow m d)) = .ok (.bo m d) := (rfl)
@[simp] theorem e_v (i : Nat) : evE Γ env (.v i) = getR env[i]? := by rw [evE]; rfl
@[simp] theorem e_kn : evE Γ env .kn = .ok (.fr false .none) := by rw [evE]
@[simp] theorem e_kb (b : Bool) : evE Γ env (.kb b) = .ok (.fr false (.bool b)) := by rw [evE]
@[simp] theorem e_ki (b : Int) : evE Γ env (.ki b) = .ok (.fr false (.int b)) := by rw [evE]
@[simp] theorem e_ks (b : Str) : evE Γ env (.ks b) = .ok (.fr false (.str b)) := by rw [evE]
@[simp] theorem e_lst (es : MEs) : evE Γ env (.lst es) = (evEs Γ env es).bind fun rs => (stos rs).bind fun p => if p.2.length ≤ sizeLine then .ok (.ow p.1 (.list p.2)) else .bad := by rw [evE]; simp [fits]
@[simp] theorem e_tup (es : MEs) : evE Γ env (.tup es) = (evEs Γ env es).bind fun rs => (stos rs).bind fun p => if p.2.length ≤ sizeLine then .ok (.fr p.1 (.tuple p.2)) else .bad := by rw [evE]; simp [fits]
@[simp] theorem e_bin (op : Operator) (a b : ME) : evE Γ env (.bin op a b) = (evE Γ env a).bind fun x => (evE Γ env b).bind fun y => lift (x.m || y.m) (semBin op x.d y.d) := by rw [evE]
def negR : D → R Rv
  | .int i => .ok (.fr false (.int (-i)))
  | _ => .bad
@[simp] theorem negR_int (i : Int) : negR (.int i) = .ok (.fr false (.int (-i))) := (rfl)
@[simp] theorem e_neg (a : ME) : evE Γ env (.neg a) = (evE Γ env a).bind fun x => negR x.d := by rw [evE]; rfl
@[simp] theorem e_cmp (op : CmpOp) (a b : ME) : evE Γ env (.cmp op a b) = (evE Γ env a).bind fun x => (evE Γ env b).bind fun y => liftB (semCmp op x.d y.d) := by rw [evE]
def chnR (o : Option Bool) (z : R Rv) : R Rv := match o with
    | some true => z
    | some false => .ok (.fr false (.bool false))
    | none => .bad
@[simp] theorem chnR_t (z : R Rv) : chnR (some true) z = z := (rfl)
@[simp] theorem chnR_f (z : R Rv) : chnR (some false) z = .ok (.fr false (.bool false)) := (rfl)
@[simp] theorem chnR_dec (p : Prop) [Decidable p] (z : R Rv) : chnR (some (decide p)) z = if p then z else .ok (.fr false (.bool false)) := by by_cases h : p <;> simp [h]
@[simp] theorem e_chn (op op2 : CmpOp) (a b c : ME) : evE Γ env (.chn op op2 a b c) = (evE Γ env a).bind fun x => (evE Γ env b).bind fun y => chnR (semCmp op x.d y.d) ((evE Γ env c).bind fun z => liftB (semCmp op2 y.d z.d)) := by rw [evE]; rfl
@[simp] theorem e_bop (con : Bool) (es : MEs) : evE Γ env (.bop con es) = (evB Γ env con es).bind fun b => .ok (.fr false (.bool b)) := by rw [evE]
@[simp] theorem e_not (a : ME) : evE Γ env (.not_ a) = (evE Γ env a).bind fun x => (truth x).bind fun t => .ok (.fr false (.bool (!t))) := by rw [evE]
def itR (t : Bool) (a b : R Rv) : R Rv := if t then a else b
@[simp] theorem itR_t (a b : R Rv) : itR true a b = a := (rfl)
@[simp] theorem itR_f (a b : R Rv) : itR false a b = b := (rfl)
@[simp] theorem e_ite (c a b : ME) : evE Γ env (.ite c a b) = (evE Γ env c).bind fun x => (truth x).bind fun t => itR t (evE Γ env a) (evE Γ env b) := by rw [evE]; rfl
def ixR (m : Bool) (o : Option D) : R Rv := match o with
  | some d => .ok (mk m false d)
  | none => .bad
@[simp] theorem ixR_some (m : Bool) (d : D) : ixR m (some d) = .ok (mk m false d) := (rfl)
@[simp] theorem e_ix (a i : ME) : evE Γ env (.ix a i) = (evE Γ env a).bind fun x => (evE Γ env i).bind fun y => ixR x.m (semIx x.d y.d) := by
  rw [evE]
  congr 1
  funext x
  congr 1
  funext y
  cases semIx x.d y.d <;> rfl
@[simp] theorem e_sl (a : ME) (lo hi : MO) : evE Γ env (.sl a lo hi) = (evE Γ env a).bind fun x => (evO Γ env lo).bind fun l => (evO Γ env hi).bind fun h => lift x.m (semSl x.d l h) := by rw [evE]
@[simp] theorem e_bi (f : Str) (es : MEs) : evE Γ env (.bi f es) = (evEs Γ env es).bind fun rs => lift (anyM rs) (semBi f (rs.map Rv.d)) := by rw [evE]
@[simp] theorem e_isi (a : ME) (T : Str) : evE Γ env (.isi a T) = (evE Γ env a).bind fun x => liftB (semIsi x.d T) := by rw [evE]
@[simp] theorem e_mt (o : ME) (f : Str) (es : MEs) : evE Γ env (.mt o f es) = (evE Γ env o).bind fun x => if (isStr x.d).isSome then (evEs Γ env es).bind fun rs => lift (x.m || anyM rs) (semMt x.d f (rs.map Rv.d)) else .bad := by rw [evE]
@[simp] theorem isStr_str (x : Str) : isStr (.str x) = some x := (rfl)
def callQ (o : Option (Nat × (List D → R Rv))) (rs : List Rv) : R Rv := match o with
  | some (n, g) => if rs.length = n then (g (rs.map Rv.d)).bind (ans (rs.any isBo)) else .bad
  | none => .bad
@[simp] theorem callQ_some (n : Nat) (g : List D → R Rv) (rs : List Rv) : callQ (some (n, g)) rs = if rs.length = n then (g (rs.map Rv.d)).bind (ans (rs.any isBo)) else .bad := (rfl)
def lixR (o : Option Int) : R Rv := match o with
  | some j => .ok (.fr false (.int j))
  | none => .bad
@[simp] theorem lixR_some (j : Int) : lixR (some j) = .ok (.fr false (.int j)) := (rfl)
def lixL (d : D) (y : R Rv) : R Rv := match d with
  | .list ds => y.bind fun y => lixR (semLix (.list ds) y.d)
  | _ => .bad
@[simp] theorem lixL_list (ds : List D) (y : R Rv) : lixL (.list ds) y = y.bind fun y => lixR (semLix (.list ds) y.d) := (rfl)
@[simp] theorem e_lix (a b : ME) : evE Γ env (.lix a b) = (evE Γ env a).bind fun x => lixL x.d (evE Γ env b) := by rw [evE]; rfl
theorem e_call {f : Str} {n : Nat} {g : List D → R Rv} (h : Γ f = some (n, g)) (es : MEs) : evE Γ env (.call f es) = (evEs Γ env es).bind fun rs => if rs.length = n then (g (rs.map Rv.d)).bind (ans (rs.any isBo)) else .bad := by rw [evE, h]
def lcT (Γ : FT) (env : List Sl) (g : MG) (c : MO) (elt : ME) (m : Bool) : D → R (Option (Bool × D)) := fun d => noErr ((bindG g m d env).bind fun env' => (evC Γ env' c).bind fun t => if t then ((evE Γ env' elt).bind sto).bind (fun q => .ok (some q)) else .ok none)
@[simp] theorem e_lc (g : MG) (it : MI) (c : MO) (elt : ME) : evE Γ env (.lc g it c elt) = (evI Γ env it).bind fun p => (lcR (lcT Γ env g c elt p.1) p.2).bind fun q => if p.2.length ≤ sizeLine then .ok (.ow q.1 (.list q.2)) else .bad := by
  rw [evE]; simp [fits]; rfl
def rvlR (x : Rv) : R Rv := match x.d with
  | .list ds => .ok (.ow x.m (.list ds.reverse))
  | _ => .bad
@[simp] theorem rvlR_fr (m : Bool) (ds : List D) : rvlR (.fr m (.list ds)) = .ok (.ow m (.list ds.reverse)) := (rfl)
@[simp] theorem rvlR_ow (m : Bool) (ds : List D) : rvlR (.ow m (.list ds)) = .ok (.ow m (.list ds.reverse)) := (rfl)
@[simp] theorem rvlR_bo (m : Bool) (ds : List D) : rvlR (.bo m (.list ds)) = .ok (.ow m (.list ds.reverse)) := (rfl)
@[simp] theorem e_rvl (a : ME) : evE Γ env (.rvl a) = (evE Γ env a).bind rvlR := by rw [evE]; rfl
def repR (y z : Str) (x : Rv) : R Rv := match x.d with
  | .str t => if t.length + (t.length + 1) * z.length ≤ 16777216 then .ok (.fr false (.str (Txt.replace t y z))) else .bad
  | _ => .bad
@[simp] theorem e_rep (a : ME) (y z : Str) : evE Γ env (.rep a y z) = (evE Γ env a).bind (repR y z) := by rw [evE]; rfl
def srkR (g : List D → R Rv) (x : Rv) : R Rv := match x.d with
  | .list ds => (keysR g ds).bind fun ks => .ok (.ow x.m (.list ((srtK (ks.zip ds)).map (·.2))))
  | _ => .bad
@[simp] theorem srkR_fr (g : List D → R Rv) (m : Bool) (ds : List D) : srkR g (.fr m (.list ds)) = (keysR g ds).bind fun ks => .ok (.ow m (.list ((srtK (ks.zip ds)).map (·.2)))) := (rfl)
@[simp] theorem srkR_ow (g : List D → R Rv) (m : Bool) (ds : List D) : srkR g (.ow m (.list ds)) = (keysR g ds).bind fun ks => .ok (.ow m (.list ((srtK (ks.zip ds)).map (·.2)))) := (rfl)
@[simp] theorem srkR_bo (g : List D → R Rv) (m : Bool) (ds : List D) : srkR g (.bo m (.list ds)) = (keysR g ds).bind fun ks => .ok (.ow m (.list ((srtK (ks.zip ds)).map (·.2)))) := (rfl)
@[simp] theorem es_nil : evEs Γ env .nil = .ok [] := by rw [evEs]
@[simp] theorem es_cons (e : ME) (es : MEs) : evEs Γ env (.cons e es) = (evE Γ env e).bind fun x => (evEs Γ env es).bind fun xs => .ok (x :: xs) := by rw [evEs]
@[simp] theorem eb_one (con : Bool) (e : ME) : evB Γ env con (.cons e .nil) = (evE Γ env e).bind truth := by rw [evB]
def bopR (t con : Bool) (r : R Bool) : R Bool := if t = con then r else .ok t
@[simp] theorem bopR_tt (r : R Bool) : bopR true true r = r := (rfl)
@[simp] theorem bopR_ff (r : R Bool) : bopR false false r = r := (rfl)
@[simp] theorem bopR_tf (r : R Bool) : bopR true false r = .ok true := (rfl)
@[simp] theorem bopR_ft (r : R Bool) : bopR false true r = .ok false := (rfl)
@[simp] theorem bopR_and (t u : Bool) : bopR t true (.ok u) = .ok (t && u) := by cases t <;> rfl
@[simp] theorem bopR_or (t u : Bool) : bopR t false (.ok u) = .ok (t || u) := by cases t <;> rfl
@[simp] theorem eb_cons (con : Bool) (e e2 : ME) (es : MEs) : evB Γ env con (.cons e (.cons e2 es)) = ((evE Γ env e).bind truth).bind fun t => bopR t con (evB Γ env con (.cons e2 es)) := by
  rw [evB]
  · rfl
  · intro h; cases h
@[simp] theorem eo_no : evO Γ env .no = .ok none := by rw [evO]
def intR : D → R (Option Int)
  | .int i => .ok (some i)
  | _ => .bad
@[simp] theorem intR_int (i : Int) : intR (.int i) = .ok (some i) := (rfl)
@[simp] theorem eo_so (e : ME) : evO Γ env (.so e) = (evE Γ env e).bind fun x => intR x.d := by rw [evO]; rfl
@[simp] theorem ec_no : evC Γ env .no = .ok true := by rw [evC]
@[simp] theorem ec_so (e : ME) : evC Γ env (.so e) = (evE Γ env e).bind truth := by rw [evC]
-- iterables
def itmR (m : Bool) (o : Option (List D)) : R (Bool × List D) := match o with
  | some ds => .ok (m, ds)
  | none => .bad
@[simp] theorem itmR_some (m : Bool) (ds : List D) : itmR m (some ds) = .ok (m, ds) := (rfl)
@[simp] theorem ei_e (a : ME) : evI Γ env (.e a) = (evE Γ env a).bind fun x => if isBo x then .bad else itmR x.m (itemsOf x.d) := by
  rw [evI]
  rfl
def rg1 : D → R (Bool × List D)
  | .int n => if -(2 ^ 62) ≤ n ∧ n < 2 ^ 62 then .ok (false, rngD 0 n.toNat) else .bad
  | _ => .bad
theorem rg1_nat (n : Nat) (h : n < 2 ^ 62) : rg1 (.int n) = .ok (false, rngD 0 n) := by
  have e : (-(2 ^ 62) ≤ (n : Int) ∧ (n : Int) < 2 ^ 62) := by omega
  simp only [rg1, if_pos e, Int.toNat_natCast]
theorem rg1_int (n : Int) (h : 0 ≤ n ∧ n < 2 ^ 62) : rg1 (.int n) = .ok (false, rngD 0 n.toNat) := by
  have e : (-(2 ^ 62) ≤ n ∧ n < 2 ^ 62) := by omega
  simp only [rg1, if_pos e]
@[simp] theorem ei_r1 (a : ME) : evI Γ env (.r1 a) = (evE Γ env a).bind fun x => rg1 x.d := by
  rw [evI]
  congr 1
  funext x
  cases x.d <;> simp [rg1, sm]
def rg2 : D → D → R (Bool × List D)
  | .int i, .int j => if (-(2 ^ 62) ≤ i ∧ i < 2 ^ 62) ∧ (-(2 ^ 62) ≤ j ∧ j < 2 ^ 62) then .ok (false, rngD i (j - i).toNat) else .bad
  | _, _ => .bad
@[simp] theorem rg2_int (i j : Int) : rg2 (.int i) (.int j) = if (-(2 ^ 62) ≤ i ∧ i < 2 ^ 62) ∧ (-(2 ^ 62) ≤ j ∧ j < 2 ^ 62) then .ok (false, rngD i (j - i).toNat) else .bad := (rfl)
@[simp] theorem ei_r2 (a b : ME) : evI Γ env (.r2 a b) = (evE Γ env a).bind fun x => (evE Γ env b).bind fun y => rg2 x.d y.d := by
  rw [evI]
  congr 1
  funext x
  congr 1
  funext y
  cases x.d <;> cases y.d <;> simp [rg2, sm]
def zipR (x y : Rv) : R (Bool × List D) := if isBo x || isBo y then .bad else match itemsOf x.d, itemsOf y.d with
    | some ds, some es => .ok (x.m || y.m, List.zipWith (fun d e => .tuple [d, e]) ds es)
    | _, _ => .bad
theorem zipR_ok {x y : Rv} {ds es : List D} (h1 : isBo x = false) (h2 : isBo y = false) (e1 : itemsOf x.d = some ds) (e2 : itemsOf y.d = some es) : zipR x y = .ok (x.m || y.m, List.zipWith (fun d e => .tuple [d, e]) ds es) := by
  unfold zipR
  rw [h1, h2, e1, e2]
  rfl
@[simp] theorem ei_zip (a b : ME) : evI Γ env (.zip a b) = (evE Γ env a).bind fun x => (evE Γ env b).bind fun y => zipR x y := by rw [evI]; rfl
def enumR (x : Rv) : R (Bool × List D) := if isBo x then .bad else match x.d with
    | .list ds => .ok (x.m, enumD 0 ds)
    | .str z => .ok (x.m, enumD 0 (z.cps.toList.map fun c => .str ⟨#[c]⟩))
    | _ => .bad
@[simp] theorem enumR_fr (m : Bool) (ds : List D) : enumR (.fr m (.list ds)) = .ok (m, enumD 0 ds) := (rfl)
@[simp] theorem enumR_ow (m : Bool) (ds : List D) : enumR (.ow m (.list ds)) = .ok (m, enumD 0 ds) := (rfl)
@[simp] theorem enumR_str (m : Bool) (z : Str) : enumR (.fr m (.str z)) = .ok (m, enumD 0 (z.cps.toList.map fun c => .str ⟨#[c]⟩)) := (rfl)
@[simp] theorem ei_enum (a : ME) : evI Γ env (.enum a) = (evE Γ env a).bind fun x => enumR x := by rw [evI]; rfl
def revR (x : Rv) : R (Bool × List D) := if isBo x then .bad else match x.d with
    | .list ds => .ok (x.m, ds.reverse)
    | _ => .bad
@[simp] theorem revR_fr (m : Bool) (ds : List D) : revR (.fr m (.list ds)) = .ok (m, ds.reverse) := (rfl)
@[simp] theorem revR_ow (m : Bool) (ds : List D) : revR (.ow m (.list ds)) = .ok (m, ds.reverse) := (rfl)
@[simp] theorem ei_rev (a : ME) : evI Γ env (.rev a) = (evE Γ env a).bind fun x => revR x := by rw [evI]; rfl
end
/-! values -/
@[simp] theorem rd_fr (m : Bool) (d : D) : Rv.d (.fr m d) = d := (rfl)
@[simp] theorem rd_ow (m : Bool) (d : D) : Rv.d (.ow m d) = d := (rfl)
@[simp] theorem rd_bo (m : Bool) (d : D) : Rv.d (.bo m d) = d := (rfl)
@[simp] theorem rm_fr (m : Bool) (d : D) : Rv.m (.fr m d) = m := (rfl)
@[simp] theorem rm_ow (m : Bool) (d : D) : Rv.m (.ow m d) = m := (rfl)
@[simp] theorem rm_bo (m : Bool) (d : D) : Rv.m (.bo m d) = m := (rfl)
@[simp] theorem bo_fr (m : Bool) (d : D) : isBo (.fr m d) = false := (rfl)
@[simp] theorem bo_ow (m : Bool) (d : D) : isBo (.ow m d) = false := (rfl)
@[simp] theorem bo_bo (m : Bool) (d : D) : isBo (.bo m d) = true := (rfl)
@[simp] theorem lift_some (m nw : Bool) (d : D) : lift m (some (nw, d)) = .ok (mk m nw d) := (rfl)
@[simp] theorem liftB_some (b : Bool) : liftB (some b) = .ok (.fr false (.bool b)) := (rfl)
@[simp] theorem mk_new (m : Bool) (d : D) : mk m true d = .ow m d := (rfl)
@[simp] theorem mk_int (m : Bool) (d : Int) : mk m false (.int d) = .fr false (.int d) := by cases m <;> rfl
@[simp] theorem mk_str (m : Bool) (d : Str) : mk m false (.str d) = .fr false (.str d) := by cases m <;> rfl
@[simp] theorem mk_bool (m : Bool) (d : Bool) : mk m false (.bool d) = .fr false (.bool d) := by cases m <;> rfl
@[simp] theorem mk_none (m : Bool) : mk m false .none = .fr false .none := by cases m <;> rfl
@[simp] theorem mk_list (m : Bool) (d : List D) : mk m false (.list d) = .fr m (.list d) := by cases m <;> rfl
@[simp] theorem mk_tup (m : Bool) (d : List D) : mk m false (.tuple d) = .fr m (.tuple d) := by cases m <;> rfl
@[simp] theorem mk_f (d : D) : mk false false d = .fr false d := (rfl)
@[simp] theorem imm_int (i : Int) : imm (.int i) = true := by simp [imm]
@[simp] theorem imm_str (i : Str) : imm (.str i) = true := by simp [imm]
@[simp] theorem imm_bool (i : Bool) : imm (.bool i) = true := by simp [imm]
@[simp] theorem imm_none : imm .none = true := by simp [imm]
@[simp] theorem imm_list (l : List D) : imm (.list l) = false := by rw [imm]
@[simp] theorem imm_tup (l : List D) : imm (.tuple l) = imms l := by rw [imm]
@[simp] theorem imms_nil : imms [] = true := by rw [imms]
@[simp] theorem imms_cons (d : D) (l : List D) : imms (d :: l) = (imm d && imms l) := by rw [imms]
@[simp] theorem sto_fr (m : Bool) (d : D) : sto (.fr m d) = .ok (m && !imm d, d) := (rfl)
@[simp] theorem sto_ow (m : Bool) (d : D) : sto (.ow m d) = .ok (m && !imm d, d) := (rfl)
@[simp] theorem stos_nil : stos [] = .ok (false, []) := (rfl)
@[simp] theorem stos_cons (r : Rv) (rs : List Rv) : stos (r :: rs) = (sto r).bind fun p => (stos rs).bind fun q => .ok (p.1 || q.1, p.2 :: q.2) := (rfl)
@[simp] theorem anyM_nil : anyM [] = false := (rfl)
@[simp] theorem anyM_cons (r : Rv) (rs : List Rv) : anyM (r :: rs) = (r.m || anyM rs) := (rfl)
@[simp] theorem truth_b (m b : Bool) : truth (.fr m (.bool b)) = .ok b := (rfl)
@[simp] theorem ans_int (l m : Bool) (d : Int) : ans l (.fr m (.int d)) = .ok (.fr false (.int d)) := by cases l <;> cases m <;> rfl
@[simp] theorem ans_str (l m : Bool) (d : Str) : ans l (.fr m (.str d)) = .ok (.fr false (.str d)) := by cases l <;> cases m <;> rfl
@[simp] theorem ans_bool (l m : Bool) (d : Bool) : ans l (.fr m (.bool d)) = .ok (.fr false (.bool d)) := by cases l <;> cases m <;> rfl
@[simp] theorem ans_none (l m : Bool) : ans l (.fr m .none) = .ok (.fr false .none) := by cases l <;> cases m <;> rfl
@[simp] theorem ans_fr (l : Bool) (d : D) : ans l (.fr false d) = .ok (.fr false d) := by cases l <;> rfl
@[simp] theorem ans_nl (m : Bool) (d : D) : ans false (.fr m d) = .ok (.fr (m && !imm d) d) := (rfl)
@[simp] theorem ans_ow (l : Bool) (d : List D) : ans l (.ow false (.list d)) = .ok (.ow false (.list d)) := by cases l <;> rfl
@[simp] theorem ans_own (m : Bool) (d : List D) : ans false (.ow m (.list d)) = .ok (.ow (m && !imms d) (.list d)) := (rfl)
@[simp] theorem noErr_ok' {α : Type} (a : α) : noErr (.ok a) = .ok a := (rfl)
end En

set_option Elab.async false
set_option linter.all false
set_option maxRecDepth 100000
set_option maxHeartbeats 4000000
namespace En
open PySem PySem.Spec PyProof.Rows L2

/-! ### texts as lists of signs -/
abbrev Tx := List Nat
def tx (l : Tx) : D := .str ⟨l.toArray⟩
theorem tx_inj {a b : Tx} : tx a = tx b ↔ a = b := by
  unfold tx
  constructor
  · intro h
    injection h with h
    injection h with h
    simpa using h
  · intro h; rw [h]
@[simp] theorem imm_tx (l : Tx) : imm (tx l) = true := imm_str _
@[simp] theorem mk_tx (m : Bool) (l : Tx) : mk m false (tx l) = .fr false (tx l) := mk_str _ _
@[simp] theorem ans_tx (b m : Bool) (l : Tx) : ans b (.fr m (tx l)) = .ok (.fr false (tx l)) := ans_str _ _ _
@[simp] theorem isStr_tx (l : Tx) : isStr (tx l) = some ⟨l.toArray⟩ := (rfl)
@[simp] theorem items_tx (l : Tx) : itemsOf (tx l) = some (l.map fun c => tx [c]) := by
  show some ((l.toArray).toList.map _) = _
  simp [tx]
@[simp] theorem items_list (l : List D) : itemsOf (.list l) = some l := (rfl)
@[simp] theorem items_tup (l : List D) : itemsOf (.tuple l) = some l := (rfl)
@[simp] theorem enumR_tx (m : Bool) (l : Tx) : enumR (.fr m (tx l)) = .ok (m, enumD 0 (l.map fun c => tx [c])) := by
  show enumR (.fr m (.str ⟨l.toArray⟩)) = _
  rw [enumR_str]
  simp [tx]
-- operators
@[simp] theorem add_int (i j : Int) : semBin .Add (.int i) (.int j) = some (false, .int (i + j)) := (rfl)
@[simp] theorem sub_int (i j : Int) : semBin .Sub (.int i) (.int j) = some (false, .int (i - j)) := (rfl)
theorem mul_int {i j : Int} (h : (-(2 ^ 64) < i ∧ i < 2 ^ 64) ∨ (-(2 ^ 64) < j ∧ j < 2 ^ 64)) : semBin .Mult (.int i) (.int j) = some (false, .int (i * j)) := by
  simp only [semBin, Bool.or_eq_true, Bool.and_eq_true, decide_eq_true_eq]
  rw [if_pos h]
theorem div_int {i j : Int} (h : 0 < j ∧ j < 1073741824) : semBin .FloorDiv (.int i) (.int j) = some (false, .int (i / j)) := by
  simp only [semBin, Bool.and_eq_true, decide_eq_true_eq]
  rw [if_pos h]
theorem mod_int {i j : Int} (h : 0 < j) : semBin .Mod (.int i) (.int j) = some (false, .int (i % j)) := by
  simp only [semBin, decide_eq_true_eq]
  rw [if_pos h]
theorem add_tx {a b : Tx} (h : a.length + b.length ≤ sizeLine) : semBin .Add (tx a) (tx b) = some (false, tx (a ++ b)) := by
  have e : fits ((⟨a.toArray⟩ : Str).length + (⟨b.toArray⟩ : Str).length) = true := decide_eq_true (by simpa [Str.length] using h)
  show (if fits ((⟨a.toArray⟩ : Str).length + (⟨b.toArray⟩ : Str).length) = true then some (false, PyData.str ((⟨a.toArray⟩ : Str) ++ (⟨b.toArray⟩ : Str))) else none) = _
  rw [if_pos e]
  congr 2
  show PyData.str ⟨a.toArray ++ b.toArray⟩ = .str ⟨(a ++ b).toArray⟩
  simp
theorem add_list {a b : List D} (h : a.length + b.length ≤ sizeLine) : semBin .Add (.list a) (.list b) = some (true, .list (a ++ b)) := by
  have e : fits (a.length + b.length) = true := decide_eq_true h
  show (if fits (a.length + b.length) = true then _ else _) = _
  rw [if_pos e]
theorem mul_tx {a : Tx} {n : Nat} (h : a.length * n ≤ sizeLine) (hn : n < 2 ^ 63) : semBin .Mult (tx a) (.int n) = some (false, tx (List.replicate n a).flatten) := by
  have e : (decide (-(2 ^ 63) ≤ (n : Int)) && decide ((n : Int) < 2 ^ 63) && fits ((⟨a.toArray⟩ : Str).length * (n : Int).toNat)) = true := by
    simp only [Bool.and_eq_true, decide_eq_true_eq, fits]
    refine ⟨⟨by omega, by omega⟩, ?_⟩
    simpa [Str.length] using h
  simp only [semBin, tx]
  rw [if_pos e]
  simp
@[simp] theorem lt_int (i j : Int) : semCmp .Lt (.int i) (.int j) = some (decide (i < j)) := (rfl)
@[simp] theorem le_int (i j : Int) : semCmp .LtE (.int i) (.int j) = some (decide (i ≤ j)) := (rfl)
@[simp] theorem gt_int (i j : Int) : semCmp .Gt (.int i) (.int j) = some (decide (j < i)) := (rfl)
@[simp] theorem ge_int (i j : Int) : semCmp .GtE (.int i) (.int j) = some (decide (j ≤ i)) := (rfl)
@[simp] theorem cmp_eq (a b : D) : semCmp .Eq a b = eqO a b := (rfl)
@[simp] theorem cmp_ne (a b : D) : semCmp .NotEq a b = (eqO a b).map (!·) := (rfl)
@[simp] theorem cmp_in (a b : D) : semCmp .In a b = inO a b := (rfl)
@[simp] theorem cmp_nin (a b : D) : semCmp .NotIn a b = (inO a b).map (!·) := (rfl)
@[simp] theorem cmp_is (a b : D) : semCmp .Is a b = isO a b := (rfl)
@[simp] theorem cmp_isn (a b : D) : semCmp .IsNot a b = (isO a b).map (!·) := (rfl)
@[simp] theorem eq_int (i j : Int) : eqO (.int i) (.int j) = some (decide (i = j)) := by
  show some (decide (V.int i = V.int j)) = _
  congr 1
  simp
@[simp] theorem eq_bool (i j : Bool) : eqO (.bool i) (.bool j) = some (decide (i = j)) := by
  show some (decide (V.bl i = V.bl j)) = _
  congr 1
  simp
@[simp] theorem eq_str (i j : Str) : eqO (.str i) (.str j) = some (decide (i = j)) := by
  show some (decide (V.str i = V.str j)) = _
  congr 1
  simp
@[simp] theorem eq_tx (a b : Tx) : eqO (tx a) (tx b) = some (decide (a = b)) := by
  unfold tx
  rw [eq_str]
  congr 1
  simp
@[simp] theorem is_true (b : Bool) : isO (.bool b) (.bool true) = some b := by cases b <;> rfl
@[simp] theorem is_false (b : Bool) : isO (.bool b) (.bool false) = some (!b) := by cases b <;> rfl
theorem isi_bool (d : D) : semIsi d "bool" = some (match d with | .bool _ => true | _ => false) := by
  unfold semIsi
  rw [if_neg (by decide), if_pos rfl]
  all_goals (cases d <;> rfl)
@[simp] theorem isi_bool_b (b : Bool) : semIsi (.bool b) "bool" = some true := isi_bool _
@[simp] theorem isi_str_tx (b : Tx) : semIsi (tx b) "str" = some true := by simp [semIsi, tx]
-- builtins
@[simp] theorem bi_len' (ds : List D) : semBi "len" ds = s_len ds := by simp [semBi]
@[simp] theorem bi_int' (ds : List D) : semBi "int" ds = s_int ds := by
  unfold semBi
  rw [if_neg (by decide), if_neg (by decide), if_neg (by decide), if_neg (by decide), if_neg (by decide), if_neg (by decide), if_pos rfl]
@[simp] theorem len_list (l : List D) : s_len [.list l] = some (false, .int l.length) := (rfl)
@[simp] theorem len_tup (l : List D) : s_len [.tuple l] = some (false, .int l.length) := (rfl)
theorem len_tx {l : Tx} (h : l.length ≤ sizeLine) : s_len [tx l] = some (false, .int l.length) := by
  have e : fits (⟨l.toArray⟩ : Str).length = true := decide_eq_true (by simpa [Str.length] using h)
  show (if fits (⟨l.toArray⟩ : Str).length = true then some (false, PyData.int ((⟨l.toArray⟩ : Str).length)) else none) = _
  rw [if_pos e]
  simp [Str.length]
theorem ix_list {l : List D} {i : Nat} {d : D} (h : l[i]? = some d) : semIx (.list l) (.int i) = some d := atI_nat h
theorem ix_tup {l : List D} {i : Nat} {d : D} (h : l[i]? = some d) : semIx (.tuple l) (.int i) = some d := atI_nat h
theorem ix_tx {l : Tx} {i : Nat} {c : Nat} (hl : l.length ≤ sizeLine) (h : l[i]? = some c) : semIx (tx l) (.int i) = some (tx [c]) := by
  have e : fits (⟨l.toArray⟩ : Str).length = true := decide_eq_true (by simpa [Str.length] using hl)
  show (if fits (⟨l.toArray⟩ : Str).length = true then (atI (⟨l.toArray⟩ : Str).cps.toList (i : Int)).map (fun c => PyData.str ⟨#[c]⟩) else none) = _
  rw [if_pos e]
  rw [atI_nat (v := c) (by simpa using h)]
  rfl
theorem sl_tx {l : Tx} (hl : l.length ≤ sizeLine) (a b : Option Int) : semSl (tx l) a b = some (false, tx (cutL l a b)) := by
  have e : fits (⟨l.toArray⟩ : Str).length = true := decide_eq_true (by simpa [Str.length] using hl)
  show (if fits (⟨l.toArray⟩ : Str).length = true then some (false, PyData.str ⟨(cutL (⟨l.toArray⟩ : Str).cps.toList a b).toArray⟩) else none) = _
  rw [if_pos e]
  simp [tx]
@[simp] theorem sl_list (l : List D) (a b : Option Int) : semSl (.list l) a b = some (true, .list (cutL l a b)) := (rfl)
@[simp] theorem sl_tup (l : List D) (a b : Option Int) : semSl (.tuple l) a b = some (false, .tuple (cutL l a b)) := (rfl)
theorem cut_to {α : Type} {l : List α} {k : Nat} : cutL l none (some (k : Int)) = l.take k := by
  unfold cutL
  rw [HT.sIx_none, HT.sIx_nat]
  simp [List.take_eq_take_iff]
theorem cut_from {α : Type} {l : List α} {k : Nat} : cutL l (some (k : Int)) none = l.drop k := by
  unfold cutL
  rw [HT.sIx_none, HT.sIx_nat]
  by_cases h : k ≤ l.length
  · rw [Nat.min_eq_left h, List.take_of_length_le (by rw [List.length_drop]; omega)]
  · rw [Nat.min_eq_right (by omega), List.drop_eq_nil_of_le (as := l) (i := k) (by omega)]
    simp
/-- join of single texts -/
theorem allO_tx : ∀ ts : List Tx, allO isStr (ts.map tx) = some (ts.map fun t => (⟨t.toArray⟩ : Str))
  | [] => rfl
  | t :: ts => by
    rw [List.map_cons, allO, allO_tx ts]
    rfl
theorem joinL_nil : ∀ ts : List (List Nat), TL.joinL [] ts = ts.flatten
  | [] => rfl
  | [t] => by simp [TL.joinL]
  | t :: u :: ts => by
    have := joinL_nil (u :: ts)
    simp [TL.joinL] at this ⊢
    exact this
theorem join_tx {ts : List Tx} (h : (ts.map List.length).sum ≤ sizeLine) : semMt (tx []) "join" [.list (ts.map tx)] = some (false, tx ts.flatten) := by
  have e0 : semMt (tx []) "join" [.list (ts.map tx)] = m_join (tx []) [.list (ts.map tx)] := by simp [semMt]
  rw [e0]
  show ((allO isStr (ts.map tx)).bind fun ys => if fits ((ys.map (·.length)).sum + ys.length * (⟨#[]⟩ : Str).length) = true then some (false, PyData.str ⟨(TL.joinL (⟨#[]⟩ : Str).cps.toList (ys.map TL.tl)).toArray⟩) else none) = _
  rw [allO_tx]
  simp only [Option.bind_some]
  have e2 : ((ts.map fun t => (⟨t.toArray⟩ : Str)).map (·.length)) = ts.map List.length := by
    rw [List.map_map]
    apply List.map_congr_left
    intro t _
    simp [Str.length]
  have e4 : fits ((ts.map List.length).sum + (ts.map fun t => (⟨t.toArray⟩ : Str)).length * (⟨#[]⟩ : Str).length) = true := decide_eq_true (by simpa [Str.length] using h)
  rw [e2, if_pos e4]
  have e3 : (ts.map fun t => (⟨t.toArray⟩ : Str)).map TL.tl = ts := by
    rw [List.map_map]
    conv => rhs; rw [← List.map_id ts]
    apply List.map_congr_left
    intro t _
    simp [TL.tl]
  rw [e3]
  show some (false, PyData.str ⟨(TL.joinL [] ts).toArray⟩) = _
  rw [joinL_nil]
  rfl
/-! ### loops -/
end En

set_option Elab.async false
set_option linter.all false
set_option maxRecDepth 100000
set_option maxHeartbeats 4000000
namespace En
open PySem PySem.Spec PyProof.Rows L2

/-! ### what is to hold behind a run -/
inductive RS {α : Type} (X : Str → Prop) : R α → (α → Prop) → Prop
  | ok {a : α} {Q : α → Prop} : Q a → RS X (.ok a) Q
  | err {x : Str} {Q : α → Prop} : X x → RS X (.err x) Q
inductive FS (X : Str → Prop) (B C : List Sl → Prop) (Q : Rv → Prop) : Fl → (List Sl → Prop) → Prop
  | next {e : List Sl} {N : List Sl → Prop} : N e → FS X B C Q (.next e) N
  | ret {r : Rv} {N : List Sl → Prop} : Q r → FS X B C Q (.ret r) N
  | brk {e : List Sl} {N : List Sl → Prop} : B e → FS X B C Q (.brk e) N
  | cnt {e : List Sl} {N : List Sl → Prop} : C e → FS X B C Q (.cnt e) N
  | err {x : Str} {N : List Sl → Prop} : X x → FS X B C Q (.err x) N
section
variable {α β : Type} {X : Str → Prop} {B C : List Sl → Prop} {Q : Rv → Prop} {N : List Sl → Prop}
@[simp] theorem rs_ok (a : α) (K : α → Prop) : RS X (.ok a) K = K a := propext ⟨fun h => by cases h; assumption, .ok⟩
@[simp] theorem rs_err (x : Str) (K : α → Prop) : RS X (.err x) K = X x := propext ⟨fun h => by cases h; assumption, .err⟩
@[simp] theorem rs_bad (K : α → Prop) : RS X (.bad : R α) K = False := propext ⟨fun h => (nomatch h), fun h => h.elim⟩
@[simp] theorem rs_bind (r : R α) (f : α → R β) (K : β → Prop) : RS X (r.bind f) K = RS X r fun a => RS X (f a) K := by
  cases r with
  | ok a => rw [rs_ok]; rfl
  | err x => rw [rs_err]; exact rs_err _ _
  | bad => rw [rs_bad]; exact rs_bad _
@[simp] theorem rs_ite (c : Prop) [Decidable c] (a b : R α) (K : α → Prop) : RS X (if c then a else b) K = if c then RS X a K else RS X b K := by split <;> rfl
@[simp] theorem rs_itR (t : Bool) (a b : R Rv) (K : Rv → Prop) : RS X (itR t a b) K = ((t = true → RS X a K) ∧ (t = false → RS X b K)) := by cases t <;> simp
@[simp] theorem rs_bopA (t : Bool) (r : R Bool) (K : Bool → Prop) : RS X (bopR t true r) K = ((t = true → RS X r K) ∧ (t = false → K false)) := by cases t <;> simp
@[simp] theorem rs_bopO (t : Bool) (r : R Bool) (K : Bool → Prop) : RS X (bopR t false r) K = ((t = false → RS X r K) ∧ (t = true → K true)) := by cases t <;> simp
theorem rs_imp {r : R α} {K K' : α → Prop} (h : RS X r K) (i : ∀ a, K a → K' a) : RS X r K' := by
  cases h with
  | ok h => exact .ok (i _ h)
  | err h => exact .err h
theorem rs_eq {r : R α} {K : α → Prop} (h : RS (fun _ => False) r K) : ∃ a, r = .ok a ∧ K a := by
  cases h with
  | ok h => exact ⟨_, rfl, h⟩
  | err h => exact h.elim
@[simp] theorem fs_next (e : List Sl) : FS X B C Q (.next e) N = N e := propext ⟨fun h => by cases h; assumption, .next⟩
@[simp] theorem fs_ret (e : Rv) : FS X B C Q (.ret e) N = Q e := propext ⟨fun h => by cases h; assumption, .ret⟩
@[simp] theorem fs_brk (e : List Sl) : FS X B C Q (.brk e) N = B e := propext ⟨fun h => by cases h; assumption, .brk⟩
@[simp] theorem fs_cnt (e : List Sl) : FS X B C Q (.cnt e) N = C e := propext ⟨fun h => by cases h; assumption, .cnt⟩
@[simp] theorem fs_err (e : Str) : FS X B C Q (.err e) N = X e := propext ⟨fun h => by cases h; assumption, .err⟩
@[simp] theorem fs_bad : FS X B C Q .bad N = False := propext ⟨fun h => (nomatch h), fun h => h.elim⟩
@[simp] theorem fs_then (a : Fl) (f : List Sl → Fl) : FS X B C Q (a.then f) N = FS X B C Q a fun e => FS X B C Q (f e) N := by cases a <;> simp [Fl.then]
@[simp] theorem fs_of (r : R α) (f : α → Fl) : FS X B C Q (Fl.of r f) N = RS X r fun a => FS X B C Q (f a) N := by cases r <;> simp [Fl.of]
@[simp] theorem fs_if (t : Bool) (a b : Fl) : FS X B C Q (ifR t a b) N = ((t = true → FS X B C Q a N) ∧ (t = false → FS X B C Q b N)) := by cases t <;> simp
@[simp] theorem fs_ite (c : Prop) [Decidable c] (a b : Fl) : FS X B C Q (if c then a else b) N = if c then FS X B C Q a N else FS X B C Q b N := by split <;> rfl
theorem fs_imp {f : Fl} {N' : List Sl → Prop} (h : FS X B C Q f N) (i : ∀ e, N e → N' e) : FS X B C Q f N' := by
  cases h with
  | next h => exact .next (i _ h)
  | ret h => exact .ret h
  | brk h => exact .brk h
  | cnt h => exact .cnt h
  | err h => exact .err h
theorem fs_for {f : D → List Sl → Fl} (I : Nat → List Sl → Prop) : ∀ {ds : List D} {env : List Sl}, I 0 env → (∀ i d e, ds[i]? = some d → I i e → FS X N (I (i + 1)) Q (f d e) (I (i + 1))) → (∀ e, I ds.length e → N e) → FS X B C Q (forR f ds env) N := by
  intro ds
  induction ds generalizing I with
  | nil => exact fun h _ n => .next (n _ h)
  | cons d ds ih =>
    intro env h hs n
    have h1 := hs 0 d env rfl h
    have eq : forR f (d :: ds) env = (match f d env with | .next e => forR f ds e | .cnt e => forR f ds e | .brk e => .next e | a => a) := rfl
    rw [eq]
    have nx : ∀ e, I 1 e → FS X B C Q (forR f ds e) N := fun e he => ih (fun i => I (i + 1)) he (fun i d e hd => hs (i + 1) d e (by simpa using hd)) n
    cases e1 : f d env with
    | next e => rw [e1, fs_next] at h1; exact nx e h1
    | cnt e => rw [e1, fs_cnt] at h1; exact nx e h1
    | brk e => rw [e1, fs_brk] at h1; exact .next h1
    | ret r => rw [e1, fs_ret] at h1; exact .ret h1
    | err x => rw [e1, fs_err] at h1; exact .err h1
    | bad => rw [e1, fs_bad] at h1; exact h1.elim
theorem fs_whl {c : List Sl → R Bool} {f : List Sl → Fl} (I : Nat → List Sl → Prop) : ∀ {n : Nat} {m : Nat} {env : List Sl}, I m env → m < n →
    (∀ m e, I m e → RS X (c e) fun t => (t = true → FS X N (fun e' => ∃ k, k < m ∧ I k e') Q (f e) (fun e' => ∃ k, k < m ∧ I k e')) ∧ (t = false → N e)) → FS X B C Q (whlR c f n env) N := by
  intro n
  induction n with
  | zero => exact fun _ h => absurd h (Nat.not_lt_zero _)
  | succ n ih =>
    intro m env h hm hs
    have h1 := hs m env h
    show FS X B C Q (.of (c env) fun t => if t then match f env with
      | .next e => whlR c f n e
      | .cnt e => whlR c f n e
      | .brk e => .next e
      | a => a else .next env) N
    rw [fs_of]
    refine rs_imp h1 fun t ⟨ht, hf⟩ => ?_
    cases t with
    | false => exact .next (hf rfl)
    | true =>
      have h2 := ht rfl
      rw [if_pos rfl]
      have nx : ∀ e, (∃ k, k < m ∧ I k e) → FS X B C Q (whlR c f n e) N := fun e ⟨k, hk, hi⟩ => ih hi (by omega) hs
      cases e1 : f env with
      | next e => rw [e1, fs_next] at h2; exact nx e h2
      | cnt e => rw [e1, fs_cnt] at h2; exact nx e h2
      | brk e => rw [e1, fs_brk] at h2; exact .next h2
      | ret r => rw [e1, fs_ret] at h2; exact .ret h2
      | err x => rw [e1, fs_err] at h2; exact .err h2
      | bad => rw [e1, fs_bad] at h2; exact h2.elim
/-- a def's run -/
theorem rs_run {Γ : FT} {fuel : Nat} {f : MF} {ds : List D} {K : Rv → Prop} (h : FS X (fun _ => False) (fun _ => False) K (evSs Γ fuel f.body (startE f.slots ds)) fun _ => K (.fr false .none)) : RS X (runF Γ fuel f ds) K := by
  unfold runF
  cases e : evSs Γ fuel f.body (startE f.slots ds) with
  | bad => rw [e, fs_bad] at h; exact h.elim
  | err x => rw [e, fs_err] at h; exact .err h
  | next x => rw [e, fs_next] at h; exact .ok h
  | ret x => rw [e, fs_ret] at h; exact .ok h
  | brk x => rw [e, fs_brk] at h; exact h.elim
  | cnt x => rw [e, fs_cnt] at h; exact h.elim
/-- over a comprehension's items -/
theorem rs_lc {f : D → R (Option (Bool × D))} (I : Nat → Bool → List D → Prop) : ∀ {ds : List D} {K : Bool × List D → Prop}, I 0 false [] → (∀ i d m l, ds[i]? = some d → I i m l → RS X (f d) fun o => match o with
    | some p => I (i + 1) (m || p.1) (l ++ [p.2])
    | none => I (i + 1) m l) → (∀ m l, I ds.length m l → K (m, l)) → RS X (lcR f ds) K := by
  have gen : ∀ (ds : List D) (I : Nat → Bool → List D → Prop) (m0 : Bool) (l0 : List D) (K : Bool × List D → Prop), I 0 m0 l0 → (∀ i d m l, ds[i]? = some d → I i m l → RS X (f d) fun o => match o with
      | some p => I (i + 1) (m || p.1) (l ++ [p.2])
      | none => I (i + 1) m l) → (∀ m l, I ds.length m l → K (m, l)) → RS X (lcR f ds) fun q => K (m0 || q.1, l0 ++ q.2) := by
    intro ds
    induction ds with
    | nil => intro I m0 l0 K h _ n; simpa [lcR] using n _ _ h
    | cons d ds ih =>
      intro I m0 l0 K h hs n
      have h1 := hs 0 d m0 l0 rfl h
      show RS X ((f d).bind fun o => (lcR f ds).bind fun q => match o with | some p => .ok (p.1 || q.1, p.2 :: q.2) | none => .ok q) _
      rw [rs_bind]
      refine rs_imp h1 fun o ho => ?_
      rw [rs_bind]
      cases o with
      | none =>
        refine rs_imp (ih (fun i => I (i + 1)) m0 l0 K ho (fun i d m l hd => hs (i + 1) d m l (by simpa using hd)) n) fun q hq => .ok hq
      | some p =>
        refine rs_imp (ih (fun i => I (i + 1)) _ _ K ho (fun i d m l hd => hs (i + 1) d m l (by simpa using hd)) n) fun q hq => ?_
        refine .ok ?_
        show K (m0 || (p.1 || q.1), l0 ++ p.2 :: q.2)
        rw [← Bool.or_assoc, show l0 ++ p.2 :: q.2 = (l0 ++ [p.2]) ++ q.2 by simp]
        exact hq
  intro ds K h hs n
  have := gen ds I false [] K h hs n
  simpa using this
end
end En

set_option Elab.async false
set_option linter.all false
set_option maxRecDepth 100000
set_option maxHeartbeats 8000000
namespace En
open PySem PySem.Spec PyProof.Rows L2

/-! ### places of what is handed in: a run does not look at them -/
def rnS (ρ : Addr → Addr) : Sl → Sl
  | .ko a m d => .ko (ρ a) m d
  | s => s
def Fl.mp (ρ : Addr → Addr) : Fl → Fl
  | .next e => .next (e.map (rnS ρ))
  | .brk e => .brk (e.map (rnS ρ))
  | .cnt e => .cnt (e.map (rnS ρ))
  | f => f
section
variable {Γ : FT} {fuel : Nat} {ρ : Addr → Addr}
end
end En

set_option Elab.async false
set_option linter.all false
set_option maxRecDepth 100000
set_option maxHeartbeats 8000000
namespace En
open PySem PySem.Spec PyProof.Rows L2

/-! ### a def that changes what it is given, by its mini-text -/
def flat : D → Bool
  | .list ds => imms ds
  | _ => false
section
variable {P : Program} {w : World} {K : PySem.W.Frag} {mg : Str → Option Value} {base : Heap}
end
end En

set_option Elab.async false
set_option linter.all false
set_option maxRecDepth 100000
set_option maxHeartbeats 4000000
namespace En
open PySem PySem.Spec PyProof.Rows L2

/-! ### written texts -/
@[simp] theorem lit_dash : (PyData.str (Str.ofString "-") : D) = tx [45] := (rfl)
@[simp] theorem lit_0 : (PyData.str (Str.ofString "0") : D) = tx [48] := (rfl)
@[simp] theorem lit_1 : (PyData.str (Str.ofString "1") : D) = tx [49] := (rfl)
@[simp] theorem lit_e : (PyData.str (Str.ofString "") : D) = tx [] := (rfl)
@[simp] theorem lit_01 : (PyData.str (Str.ofString "01") : D) = tx [48, 49] := (rfl)
@[simp] theorem lit_10 : (PyData.str (Str.ofString "10") : D) = tx [49, 48] := (rfl)
@[simp] theorem lit_01d : (PyData.str (Str.ofString "01-") : D) = tx [48, 49, 45] := (rfl)
@[simp] theorem int_0 : s_int [tx [48]] = some (false, .int 0) := (rfl)
@[simp] theorem int_1 : s_int [tx [49]] = some (false, .int 1) := (rfl)
/-- a sign of rows; of letters -/
def Sg (c : Nat) : Prop := c = 48 ∨ c = 49 ∨ c = 45
def Bt (c : Nat) : Prop := c = 48 ∨ c = 49
theorem Bt.sg {c : Nat} (h : Bt c) : Sg c := h.elim .inl fun h => .inr (.inl h)
def Row (w : Nat) (l : Tx) : Prop := l.length = w ∧ ∀ c ∈ l, Sg c
def Ltr (w : Nat) (l : Tx) : Prop := l.length = w ∧ ∀ c ∈ l, Bt c
theorem Ltr.row {w : Nat} {l : Tx} (h : Ltr w l) : Row w l := ⟨h.1, fun c hc => (h.2 c hc).sg⟩
theorem ix_01 (i : Int) (h0 : 0 ≤ i) (h1 : i < 2) : ∃ c, Bt c ∧ semIx (tx [48, 49]) (.int i) = some (tx [c]) := by
  obtain ⟨n, rfl⟩ := Int.eq_ofNat_of_zero_le h0
  have : n = 0 ∨ n = 1 := by omega
  rcases this with rfl | rfl
  · exact ⟨48, .inl rfl, ix_tx (sz _ (by decide)) rfl⟩
  · exact ⟨49, .inr rfl, ix_tx (sz _ (by decide)) rfl⟩
theorem rngD_at {a : Int} {n i : Nat} {d : D} (h : (rngD a n)[i]? = some d) : i < n ∧ d = .int (a + (i : Int)) := by
  unfold rngD at h
  rw [List.getElem?_map] at h
  by_cases hi : i < n
  · rw [List.getElem?_range hi] at h
    cases h
    exact ⟨hi, rfl⟩
  · rw [List.getElem?_eq_none (by simpa using hi)] at h
    cases h
theorem map_at {α : Type} {f : α → D} {l : List α} {i : Nat} {d : D} (h : (l.map f)[i]? = some d) : ∃ hi : i < l.length, d = f l[i] := by
  rw [List.getElem?_map] at h
  by_cases hi : i < l.length
  · rw [List.getElem?_eq_getElem hi] at h
    cases h
    exact ⟨hi, rfl⟩
  · rw [List.getElem?_eq_none (by omega)] at h
    cases h
namespace M
/-! ### the laws' own helpers -/
def cell : MF := ⟨2, (.cons (.ife (.cmp .Lt (.v 1) (.bi "len" (.cons (.v 0) .nil))) (.cons (.ret (.ix (.v 0) (.v 1))) .nil) .nil) (.cons (.ret (.ki 0)) .nil))⟩
/-- x is y -/
def truth : MF := ⟨2, (.cons (.ret (.bop true (.cons (.isi (.v 0) "bool") (.cons (.cmp .Eq (.v 0) (.v 1)) .nil)))) .nil)⟩
def row : MF := ⟨5, (.cons (.set 3 (.lst .nil) true) (.cons (.for_ (.n 4) (.e (.call "_law_stream" (.cons (.v 0) (.cons (.v 1) .nil)))) (.cons (.ife (.cmp .Gt (.bin .Mod (.v 4) (.v 2)) (.ki 0)) (.cons (.app 3 (.ks "-")) .nil) (.cons (.app 3 (.ix (.ks "01") (.bin .Mod (.bin .FloorDiv (.v 4) (.ki 64)) (.ki 2)))) .nil)) .nil)) (.frz 3 (.cons (.ret (.mt (.ks "") "join" (.cons (.v 3) .nil))) .nil))))⟩
theorem sing_flat (l : Tx) : (l.map fun c => [c]).flatten = l := by
  induction l with
  | nil => rfl
  | cons c l ih => rw [List.map_cons, List.flatten_cons, ih]; rfl
theorem sing_len (l : Tx) : ((l.map fun c => [c]).map List.length).sum = l.length := by
  induction l with
  | nil => rfl
  | cons c l ih =>
    rw [List.map_cons, List.map_cons, List.sum_cons, ih, List.length_cons]
    show 1 + l.length = l.length + 1
    omega
theorem mem_app {P : Nat → Prop} {l : Tx} {y : Nat} (h : ∀ x ∈ l, P x) (hy : P y) : ∀ x ∈ l ++ [y], P x := fun x hx => by
  rcases List.mem_append.mp hx with hx | hx
  · exact h x hx
  · rw [List.mem_singleton.mp hx]; exact hy
theorem join_sg {l : Tx} (h : l.length ≤ 16777216) : semMt (tx []) "join" [.list (l.map fun c => tx [c])] = some (false, tx l) := by
  have := join_tx (ts := l.map fun c => [c]) (by rw [sing_len]; exact sz _ h)
  rw [sing_flat, List.map_map] at this
  exact this
end M
end En

set_option Elab.async false
set_option linter.all false
set_option maxRecDepth 100000
set_option maxHeartbeats 4000000
namespace En
open PySem PySem.Spec PyProof.Rows L2

/-! ### equal lists of plain things -/
def Flat (d : D) : Prop := d.canLay0 = true ∧ d.depth = 0
theorem flat_tx {l : Tx} (h : ∀ c ∈ l, c < 1114112) : Flat (tx l) := by
  refine ⟨?_, by simp [tx, PyData.depth]⟩
  unfold tx
  simp only [PyData.canLay0, PyData.strOk]
  simpa using h
/-! ### a letter in a row -/
def Hold (r l : Tx) : Prop := ∀ (i a b : Nat), r[i]? = some a → l[i]? = some b → a = 45 ∨ a = b
theorem zip_at {α β : Type} {f : α → β → D} {l : List α} {k : List β} {i : Nat} {d : D} (h : (List.zipWith f l k)[i]? = some d) : ∃ (hi : i < l.length) (hj : i < k.length), d = f l[i] k[i] := by
  rw [List.getElem?_zipWith] at h
  by_cases hi : i < l.length
  · by_cases hj : i < k.length
    · rw [List.getElem?_eq_getElem hi, List.getElem?_eq_getElem hj] at h
      cases h
      exact ⟨hi, hj, rfl⟩
    · rw [List.getElem?_eq_none (l := k) (by omega)] at h
      simp at h
  · rw [List.getElem?_eq_none (l := l) (by omega)] at h
    simp at h
@[simp] theorem zipR_tx (m m' : Bool) (a b : Tx) : zipR (.fr m (tx a)) (.fr m' (tx b)) = .ok (m || m', List.zipWith (fun d e => .tuple [d, e]) (a.map fun c => tx [c]) (b.map fun c => tx [c])) := zipR_ok (ds := a.map fun c => tx [c]) (es := b.map fun c => tx [c]) (by rfl) (by rfl) (items_tx a) (items_tx b)
@[simp] theorem zipR_txl (m m' : Bool) (a : Tx) (b : List D) : zipR (.fr m (tx a)) (.ow m' (.list b)) = .ok (m || m', List.zipWith (fun d e => .tuple [d, e]) (a.map fun c => tx [c]) b) := zipR_ok (ds := a.map fun c => tx [c]) (es := b) (by rfl) (by rfl) (items_tx a) (by rfl)
namespace M
def rowHolds : MF := ⟨4, (.cons (.for_ (.t [2, 3]) (.zip (.v 0) (.v 1)) (.cons (.ife (.bop true (.cons (.cmp .NotEq (.v 2) (.ks "-")) (.cons (.cmp .NotEq (.v 2) (.v 3)) .nil))) (.cons (.ret (.kb false)) .nil) .nil) .nil)) (.cons (.ret (.kb true)) .nil))⟩
theorem rowHolds_ok {Γ : FT} {n : Nat} {X : Str → Prop} {K : Rv → Prop} (r l : Tx) (q : ∀ b : Bool, (b = true ↔ Hold r l) → K (.fr false (.bool b))) : RS X (runF Γ n rowHolds [tx r, tx l]) K := by
  refine rs_run ?_
  simp [rowHolds, startE]
  obtain ⟨I, hI⟩ : ∃ I : Nat → List Sl → Prop, ∀ i e, I i e = ∃ (s s' : Sl), e = [.fr false (tx r), .fr false (tx l), s, s'] ∧ ∀ j, j < i → ∀ a b, r[j]? = some a → l[j]? = some b → a = 45 ∨ a = b := ⟨_, fun _ _ => rfl⟩
  refine fs_for I ?_ (fun i d e hd h => ?_) (fun e h => ?_)
  · rw [hI]
    exact ⟨_, _, rfl, fun j hj => absurd hj (Nat.not_lt_zero j)⟩
  · rw [hI] at h
    obtain ⟨s, s', rfl, h⟩ := h
    obtain ⟨hi, hj, rfl⟩ := zip_at hd
    have e1 := List.getElem?_eq_getElem hi
    have e2 := List.getElem?_eq_getElem hj
    generalize r[i] = a at *
    generalize l[i] = b at *
    have nx : (a = 45 ∨ a = b) → I (i + 1) [.fr false (tx r), .fr false (tx l), .fr false (tx [a]), .fr false (tx [b])] := fun hab => by
      rw [hI]
      refine ⟨_, _, rfl, fun j hj a' b' h1 h2 => ?_⟩
      by_cases hji : j < i
      · exact h j hji a' b' h1 h2
      · have : j = i := by omega
        subst this
        rw [e1] at h1; rw [e2] at h2
        cases h1; cases h2
        exact hab
    simp
    refine ⟨fun h1 h2 => q false ⟨fun z => (nomatch z), fun z => ?_⟩, fun h => nx (by by_cases h1 : a = 45 <;> simp_all)⟩
    rcases z i a b e1 e2 with z | z
    · exact absurd z h1
    · exact absurd z h2
  · rw [hI] at h
    obtain ⟨s, s', rfl, h⟩ := h
    try simp
    refine q true ⟨fun _ i a b h1 h2 => h i ?_ a b h1 h2, fun _ => rfl⟩
    have := (List.getElem?_eq_some_iff.mp h1).1
    have := (List.getElem?_eq_some_iff.mp h2).1
    rw [List.length_zipWith]
    omega
end M
end En

set_option Elab.async false
set_option linter.all false
set_option maxRecDepth 100000
set_option maxHeartbeats 4000000
namespace En
open PySem L2

/-! ### an over written on a row -/
def wr (r o : Tx) : Tx := List.zipWith (fun a b => if b = 45 then a else b) r o
theorem wr_len (r o : Tx) : (wr r o).length = min r.length o.length := List.length_zipWith
theorem wr_get {r o : Tx} {i : Nat} (h1 : i < r.length) (h2 : i < o.length) : (wr r o)[i]? = some (if o[i] = 45 then r[i] else o[i]) := by
  unfold wr
  rw [List.getElem?_zipWith, List.getElem?_eq_getElem h1, List.getElem?_eq_getElem h2]
theorem take_get {α : Type} {l : List α} {i : Nat} {a : α} (h : l[i]? = some a) : l.take (i + 1) = l.take i ++ [a] := by
  rw [List.take_add_one, h]
  rfl
namespace M
def written : MF := ⟨5, (.cons (.set 2 (.lst .nil) true) (.cons (.for_ (.t [3, 4]) (.zip (.v 0) (.v 1)) (.cons (.ife (.cmp .Eq (.v 4) (.ks "-")) (.cons (.set 4 (.v 3) false) .nil) .nil) (.cons (.app 2 (.v 4)) .nil))) (.frz 2 (.cons (.ret (.mt (.ks "") "join" (.cons (.v 2) .nil))) .nil))))⟩
theorem written_ok {Γ : FT} {n : Nat} {X : Str → Prop} {K : Rv → Prop} (r o : Tx) (hw : r.length ≤ 1000) (q : K (.fr false (tx (wr r o)))) : RS X (runF Γ n written [tx r, tx o]) K := by
  refine rs_run ?_
  simp [written, startE]
  obtain ⟨I, hI⟩ : ∃ I : Nat → List Sl → Prop, ∀ i e, I i e = ∃ (s s' : Sl) (L : D), e = [.fr false (tx r), .fr false (tx o), .ow false L, s, s'] ∧ L = .list (((wr r o).take i).map fun c => tx [c]) := ⟨_, fun _ _ => rfl⟩
  refine fs_for I ?_ (fun i d e hd h => ?_) (fun e h => ?_)
  · rw [hI]
    exact ⟨_, _, _, rfl, rfl⟩
  · rw [hI] at h
    obtain ⟨s, s', L, rfl, rfl⟩ := h
    obtain ⟨hi, hj, rfl⟩ := zip_at hd
    have g := take_get (wr_get hi hj)
    have zz : ((wr r o).take i).length < sizeLine := slt (by rw [List.length_take]; omega)
    have nx : ∀ s s', I (i + 1) [.fr false (tx r), .fr false (tx o), .ow false (.list (((wr r o).map fun c => tx [c]).take i ++ [tx [if o[i] = 45 then r[i] else o[i]]])), s, s'] := fun s s' => by
      rw [hI]
      exact ⟨_, _, _, rfl, by rw [g, List.map_append, List.map_take]; rfl⟩
    generalize r[i] = a at *
    generalize o[i] = b at *
    simp at zz
    simp [zz]
    refine ⟨fun h => ?_, fun h => ?_⟩
    · have := nx (.fr false (tx [a])) (.fr false (tx [a]))
      rw [if_pos h] at this
      exact this
    · have := nx (.fr false (tx [a])) (.fr false (tx [b]))
      rw [if_neg h] at this
      exact this
  · rw [hI] at h
    obtain ⟨s, s', L, rfl, rfl⟩ := h
    have e : (wr r o).take (List.zipWith (fun a b => PyData.tuple [tx [a], tx [b]]) r o).length = wr r o := List.take_of_length_le (by rw [wr_len, List.length_zipWith]; exact Nat.le_refl _)
    rw [e]
    simp [join_sg (l := wr r o) (by rw [wr_len]; omega)]
    exact q
end M
end En

set_option Elab.async false
set_option linter.all false
set_option maxRecDepth 100000
set_option maxHeartbeats 4000000
namespace En
open PySem L2

/-! ### rows that meet -/
def Cl (a b : Tx) : Prop := ∃ i x y : Nat, a[i]? = some x ∧ b[i]? = some y ∧ x ≠ 45 ∧ y ≠ 45 ∧ x ≠ y
def mt (a b : Tx) : Tx := List.zipWith (fun x y => if x = 45 then y else x) a b
namespace M
def fits : MF := ⟨4, (.cons (.for_ (.t [2, 3]) (.zip (.v 0) (.v 1)) (.cons (.ife (.bop true (.cons (.cmp .NotEq (.v 2) (.ks "-")) (.cons (.cmp .NotEq (.v 3) (.ks "-")) (.cons (.cmp .NotEq (.v 2) (.v 3)) .nil)))) (.cons (.ret (.kb false)) .nil) .nil) .nil)) (.cons (.ret (.kb true)) .nil))⟩
end M
end En

set_option Elab.async false
set_option linter.all false
set_option maxRecDepth 100000
set_option maxHeartbeats 4000000
namespace En
open PySem L2

@[simp] theorem int_bool (b : Bool) : s_int [.bool b] = some (false, .int (if b then 1 else 0)) := rfl
namespace M
def size : MF := ⟨3, (.cons (.set 1 (.ki 1) false) (.cons (.for_ (.n 2) (.r1 (.mt (.v 0) "count" (.cons (.ks "-") .nil))) (.cons (.set 1 (.bin .Mult (.v 1) (.ki 2)) false) .nil)) (.cons (.ret (.v 1)) .nil)))⟩
end M
end En

set_option Elab.async false
set_option linter.all false
set_option maxRecDepth 100000
set_option maxHeartbeats 4000000
namespace En
open PySem L2

@[simp] theorem is_nn : isO .none .none = some true := (rfl)
@[simp] theorem is_tn (l : Tx) : isO (tx l) .none = some false := (rfl)
@[simp] theorem is_ln (l : List D) : isO (.list l) .none = some false := (rfl)
theorem enum_at {ds : List D} {k i : Nat} {d : D} (h : (enumD k ds)[i]? = some d) : ∃ d', ds[i]? = some d' ∧ d = .tuple [.int ((k + i : Nat) : Int), d'] := by
  rw [enumD_get] at h
  cases e : ds[i]? with
  | none => rw [e] at h; cases h
  | some d' => rw [e] at h; cases h; exact ⟨d', rfl, rfl⟩
namespace M
def both : MF := ⟨3, (.cons (.ife (.not_ (.call "_law_fits" (.cons (.v 0) (.cons (.v 1) .nil)))) (.cons (.ret (.ki 0)) .nil) .nil) (.cons (.ret (.call "_law_size" (.cons (.mt (.ks "") "join" (.cons (.lc (.n 2) (.r1 (.bi "len" (.cons (.v 0) .nil))) .no (.ix (.lst (.cons (.ix (.v 0) (.v 2)) (.cons (.ix (.v 1) (.v 2)) .nil))) (.bi "int" (.cons (.cmp .Eq (.ix (.v 0) (.v 2)) (.ks "-")) .nil)))) .nil)) .nil))) .nil))⟩
def apart : MF := ⟨3, (.cons (.for_ (.n 1) (.r1 (.bi "len" (.cons (.v 0) .nil))) (.cons (.for_ (.n 2) (.r1 (.v 1)) (.cons (.ife (.call "_law_fits" (.cons (.ix (.v 0) (.v 1)) (.cons (.ix (.v 0) (.v 2)) .nil))) (.cons (.ret (.kb false)) .nil) .nil) .nil)) .nil)) (.cons (.ret (.kb true)) .nil))⟩
end M
end En

set_option Elab.async false
set_option linter.all false
set_option maxRecDepth 100000
set_option maxHeartbeats 4000000
namespace En
open PySem L2

@[simp] theorem rs_noErr {α : Type} {X : Str → Prop} (r : R α) (K : α → Prop) : RS X (noErr r) K = RS (fun _ => False) r K := by
  cases r with
  | ok a => simp
  | err x => simp [noErr]
  | bad => simp [noErr]
/-- a branch, by what holds behind both arms -/
theorem fs_cut {X : Str → Prop} {B C : List Sl → Prop} {Q : Rv → Prop} {N : List Sl → Prop} {t : Bool} {a b : Fl} (M : List Sl → Prop) (h1 : t = true → FS X B C Q a M) (h2 : t = false → FS X B C Q b M) (h3 : ∀ e, M e → N e) : FS X B C Q (ifR t a b) N := by
  cases t with
  | true => exact fs_imp (h1 rfl) h3
  | false => exact fs_imp (h2 rfl) h3
theorem isi_list (d : D) : semIsi d "list" = some (match d with | .list _ => true | _ => false) := by
  unfold semIsi
  rw [if_neg (by decide), if_neg (by decide), if_neg (by decide), if_pos rfl]
  all_goals (cases d <;> rfl)
@[simp] theorem isi_list_l (l : List D) : semIsi (.list l) "list" = some true := isi_list _
theorem allO_int : ∀ ns : List Int, allO isInt (ns.map .int) = some ns
  | [] => rfl
  | n :: ns => by
    rw [List.map_cons, allO, allO_int ns]
    rfl
theorem sum_ints (ns : List Int) : semBi "sum" [.list (ns.map .int)] = some (false, .int ns.sum) := by
  have e : semBi "sum" [.list (ns.map .int)] = s_sum [.list (ns.map .int)] := by
    unfold semBi
    rw [if_neg (by decide), if_neg (by decide), if_neg (by decide), if_pos rfl]
  rw [e]
  show (allO isInt (ns.map .int)).map (fun ns => (false, PyData.int ns.sum)) = _
  rw [allO_int]
  rfl
end En

set_option Elab.async false
set_option linter.all false
set_option maxRecDepth 100000
set_option maxHeartbeats 4000000
namespace En
open PySem L2

/-- all letters of a length -/
def choicesL : Nat → List Tx
  | 0 => [[]]
  | k + 1 => (choicesL k).map (fun c => c ++ [48]) ++ (choicesL k).map (fun c => c ++ [49])
theorem choices_len : ∀ k, (choicesL k).length = 2 ^ k
  | 0 => rfl
  | k + 1 => by
    show ((choicesL k).map _ ++ (choicesL k).map _).length = _
    rw [List.length_append, List.length_map, List.length_map, choices_len k, Nat.pow_succ]
    omega
theorem choices_all : ∀ {k : Nat} {c : Tx}, Ltr k c → c ∈ choicesL k
  | 0, c, h => by
    have : c = [] := List.eq_nil_of_length_eq_zero h.1
    rw [this]
    exact List.mem_singleton.mpr rfl
  | k + 1, c, h => by
    have hne : c ≠ [] := fun z => by rw [z] at h; cases h.1
    obtain ⟨d, x, rfl⟩ : ∃ d x, c = d ++ [x] := ⟨c.dropLast, c.getLast hne, (List.dropLast_concat_getLast hne).symm⟩
    have hl := h.1
    rw [List.length_append, List.length_singleton] at hl
    have hd : Ltr k d := ⟨by omega, fun y hy => h.2 y (List.mem_append_left _ hy)⟩
    have hx := h.2 x (List.mem_append_right _ (List.mem_singleton.mpr rfl))
    have := choices_all hd
    rcases hx with rfl | rfl
    · exact List.mem_append_left _ (List.mem_map.mpr ⟨d, this, rfl⟩)
    · exact List.mem_append_right _ (List.mem_map.mpr ⟨d, this, rfl⟩)
@[simp] theorem zipR_txf (m m' : Bool) (a : Tx) (b : List D) : zipR (.fr m (tx a)) (.fr m' (.list b)) = .ok (m || m', List.zipWith (fun d e => .tuple [d, e]) (a.map fun c => tx [c]) b) := zipR_ok (ds := a.map fun c => tx [c]) (es := b) (by rfl) (by rfl) (items_tx a) (by rfl)
namespace M
def width : MF := ⟨1, (.cons (.ife (.cmp .Lt (.bin .Mod (.v 0) (.ki 4)) (.ki 3)) (.cons (.ret (.bin .Add (.ki 1) (.bin .Mod (.bin .FloorDiv (.v 0) (.ki 4)) (.ki 6)))) .nil) .nil) (.cons (.ret (.bin .Add (.ki 7) (.bin .Mod (.bin .FloorDiv (.v 0) (.ki 4)) (.ki 42)))) .nil))⟩
end M
end En

set_option Elab.async false
set_option linter.all false
set_option maxRecDepth 100000
set_option maxHeartbeats 4000000
namespace En
open PySem L2

def putR (o : Option Sl) (i : Nat) (env : List Sl) (p : Bool × D) (y : R Rv) : Fl := match ownAt o with
  | some (oa, m, .list ds) => .of y fun y => match y.d with
    | .int n => match ixN ds.length n with
      | some j => .next (env.set i (reow oa (m || p.1) (.list (ds.set j p.2))))
      | none => .bad
    | _ => .bad
  | _ => .bad
def putJ (o : Option Nat) (m : Bool) (ds : List D) (i : Nat) (env : List Sl) (p : Bool × D) : Fl := match o with
  | some j => .next (env.set i (.ow (m || p.1) (.list (ds.set j p.2))))
  | none => .bad
@[simp] theorem putJ_some (j : Nat) (m : Bool) (ds : List D) (i : Nat) (env : List Sl) (p : Bool × D) : putJ (some j) m ds i env p = .next (env.set i (.ow (m || p.1) (.list (ds.set j p.2)))) := (rfl)
def putI (m : Bool) (ds : List D) (i : Nat) (env : List Sl) (p : Bool × D) : D → Fl
  | .int n => putJ (ixN ds.length n) m ds i env p
  | _ => .bad
@[simp] theorem putI_int (m : Bool) (ds : List D) (i : Nat) (env : List Sl) (p : Bool × D) (n : Int) : putI m ds i env p (.int n) = putJ (ixN ds.length n) m ds i env p := (rfl)
@[simp] theorem putR_ow (m : Bool) (ds : List D) (i : Nat) (env : List Sl) (p : Bool × D) (y : R Rv) : putR (some (.ow m (.list ds))) i env p y = .of y fun y => putI m ds i env p y.d := by
  simp only [putR, ownAt]
  congr 1 <;> (funext y; cases y.d <;> rfl)
@[simp] theorem s_put {Γ : FT} {fuel : Nat} {env : List Sl} (i : Nat) (k e : ME) : evS Γ fuel (.put i k e) env = .of (evE Γ env e) fun x => .of (sto x) fun p => putR env[i]? i env p (evE Γ env k) := by rw [evS]; rfl
namespace M
end M
end En

set_option Elab.async false
set_option linter.all false
set_option maxRecDepth 100000
set_option maxHeartbeats 4000000
namespace En
open PySem L2

namespace M
def places : MF := ⟨5, (.cons (.ife (.cmp .LtE (.v 1) (.ki 6)) (.cons (.ret (.lr (.so (.v 1)) .no)) .nil) .nil) (.cons (.set 2 (.lst .nil) true) (.cons (.set 3 (.ki 5) false) (.cons (.ife (.cmp .Eq (.bin .Mod (.bin .FloorDiv (.v 0) (.ki 11)) (.ki 6)) (.ki 1)) (.cons (.set 3 (.ki 8) false) .nil) .nil) (.cons (.for_ (.n 4) (.e (.call "_law_stream" (.cons (.v 0) (.cons (.v 3) .nil)))) (.cons (.ife (.cmp .NotIn (.bin .Mod (.v 4) (.v 1)) (.v 2)) (.cons (.app 2 (.bin .Mod (.v 4) (.v 1))) .nil) .nil) .nil)) (.frz 2 (.cons (.ret (.bi "sorted" (.cons (.v 2) .nil))) .nil)))))))⟩
end M
end En

set_option Elab.async false
set_option linter.all false
set_option maxRecDepth 100000
set_option maxHeartbeats 4000000
namespace En
open PySem L2

theorem sg_small {c : Nat} (h : Sg c) : c < 1114112 := by rcases h with h | h | h <;> omega
namespace M
def HoldsAt (Γ : FT) : Prop := ∃ Γ' n, Γ "row_holds" = some (2, fun ds => runF Γ' n rowHolds ds)
def has : MF := ⟨3, (.cons (.for_ (.n 2) (.e (.v 0)) (.cons (.ife (.call "row_holds" (.cons (.v 2) (.cons (.v 1) .nil))) (.cons (.ret (.kb true)) .nil) .nil) .nil)) (.cons (.ret (.kb false)) .nil))⟩
end M
end En

set_option Elab.async false
set_option linter.all false
set_option maxRecDepth 100000
set_option maxHeartbeats 4000000
namespace En
open PySem L2

@[simp] theorem imms_tx (l : List Tx) : imms (l.map tx) = true := by
  induction l with
  | nil => simp
  | cons a l ih => simp [ih]
namespace M
end M
end En

set_option Elab.async false
set_option linter.all false
set_option maxRecDepth 100000
set_option maxHeartbeats 4000000
namespace En
open PySem L2

theorem nodup_le {α : Type} [DecidableEq α] : ∀ {l m : List α}, l.Nodup → (∀ a ∈ l, a ∈ m) → l.length ≤ m.length
  | [], m, _, _ => Nat.zero_le _
  | a :: l, m, hn, hs => by
    have hn' := List.nodup_cons.mp hn
    have ha := hs a List.mem_cons_self
    have := nodup_le (l := l) (m := m.erase a) hn'.2 fun b hb => by
      have hne : b ≠ a := fun z => hn'.1 (z ▸ hb)
      exact (List.mem_erase_of_ne hne).mpr (hs b (List.mem_cons_of_mem _ hb))
    rw [List.length_erase_of_mem ha] at this
    have := List.length_pos_of_mem ha
    rw [List.length_cons]
    omega
/-- a row's signs at places, where it tells none the first one -/
def atP (ps : List Nat) (r : Tx) : Tx := ps.map fun p => if r.getD p 45 = 45 then 48 else r.getD p 45
theorem atP_ltr {w : Nat} {r : Tx} (ps : List Nat) (h : Row w r) : Ltr ps.length (atP ps r) := by
  refine ⟨by simp [atP], fun c hc => ?_⟩
  obtain ⟨p, hp, rfl⟩ := List.mem_map.mp hc
  show Bt (if r.getD p 45 = 45 then 48 else r.getD p 45)
  split
  · exact .inl rfl
  · rename_i hz
    rw [List.getD_eq_getElem?_getD] at hz ⊢
    cases e : r[p]? with
    | none => rw [e] at hz; exact absurd rfl hz
    | some x =>
      rw [e] at hz
      obtain ⟨hi, ex⟩ := List.getElem?_eq_some_iff.mp e
      have := h.2 x (by rw [← ex]; exact List.getElem_mem hi)
      rcases this with h1 | h1 | h1
      · exact .inl h1
      · exact .inr h1
      · exact absurd h1 hz
theorem few_rows {w : Nat} {rs : List Tx} {ps : List Nat} (hr : ∀ r ∈ rs, Row w r) (ht : ∀ r ∈ rs, ∀ i x : Nat, r[i]? = some x → x ≠ 45 → i ∈ ps) (ha : rs.Pairwise fun a b => Cl b a) : rs.length ≤ 2 ^ ps.length := by
  have h1 : (rs.map (atP ps)).Nodup := by
    refine List.pairwise_map.mpr ?_
    refine List.Pairwise.imp_of_mem ?_ ha
    intro a b hma hmb ⟨i, x, y, e1, e2, n1, n2, n3⟩ z
    have hi := ht b hmb i x e1 n1
    have key : ∀ p ∈ ps, (if a.getD p 45 = 45 then 48 else a.getD p 45) = (if b.getD p 45 = 45 then 48 else b.getD p 45) := fun p hp => by
      have : ps.map (fun p => if a.getD p 45 = 45 then 48 else a.getD p 45) = ps.map fun p => if b.getD p 45 = 45 then 48 else b.getD p 45 := z
      exact List.map_inj_left.mp this p hp
    have k := key i hi
    rw [List.getD_eq_getElem?_getD, List.getD_eq_getElem?_getD, e1, e2] at k
    simp [n1, n2] at k
    exact n3 k.symm
  have h2 := nodup_le h1 (m := choicesL ps.length) fun c hc => by
    obtain ⟨r, hm, rfl⟩ := List.mem_map.mp hc
    exact choices_all (atP_ltr ps (hr r hm))
  rw [List.length_map, choices_len] at h2
  exact h2
end En

set_option Elab.async false
set_option linter.all false
set_option maxRecDepth 100000
set_option maxHeartbeats 4000000
namespace En
open PySem L2

/-- rows apart, that tell some places alone, with the letters of S -/
structure Pcs (w : Nat) (ps : List Nat) (S : Tx → Prop) (rs : List Tx) : Prop where
  row : ∀ r ∈ rs, Row w r
  tell : ∀ r ∈ rs, ∀ i x : Nat, r[i]? = some x → x ≠ 45 → i ∈ ps
  apart : rs.Pairwise fun a b => Cl b a
  cov : ∀ l, Ltr w l → ((∃ r ∈ rs, Hold r l) ↔ S l)
theorem Pcs.few {w : Nat} {ps : List Nat} {S : Tx → Prop} {rs : List Tx} (h : Pcs w ps S rs) : rs.length ≤ 2 ^ ps.length := few_rows h.row h.tell h.apart
end En

set_option Elab.async false
set_option linter.all false
set_option maxRecDepth 100000
set_option maxHeartbeats 4000000
namespace En
open PySem L2

namespace M
def beyond : MF := ⟨5, (.cons (.for_ (.n 2) (.e (.v 1)) (.cons (.set 3 (.lst .nil) true) (.cons (.for_ (.n 4) (.e (.v 0)) (.cons (.ext 3 (.call "row_less" (.cons (.v 4) (.cons (.v 2) .nil)))) .nil)) (.frz 3 (.cons (.set 0 (.v 3) false) .nil))))) (.cons (.ret (.v 0)) .nil))⟩
end M
end En

set_option Elab.async false
set_option linter.all false
set_option maxRecDepth 100000
set_option maxHeartbeats 4000000
namespace En
open PySem L2

namespace M
end M
end En

set_option Elab.async false
set_option linter.all false
set_option maxRecDepth 100000
set_option maxHeartbeats 4000000
namespace En
open PySem L2

/-! ### how many letters -/
noncomputable def dec (P : Tx → Prop) : Tx → Bool := fun l => @decide (P l) (Classical.propDecidable _)
noncomputable def cnt (w : Nat) (P : Tx → Prop) : Nat := ((choicesL w).filter (dec P)).length
end En

set_option Elab.async false
set_option linter.all false
set_option maxRecDepth 100000
set_option maxHeartbeats 4000000
namespace En
open PySem L2

end En

set_option Elab.async false
set_option linter.all false
set_option maxRecDepth 100000
set_option maxHeartbeats 4000000
namespace En
open PySem L2

/-! ### signs written at places -/
end En

set_option Elab.async false
set_option linter.all false
set_option maxRecDepth 100000
set_option maxHeartbeats 4000000
namespace En
open PySem L2

theorem eqv_tx (a b : Tx) : PyData.eqv (tx a) (tx b) = decide (a = b) := by
  rw [Bool.eq_iff_iff, decide_eq_true_iff, ← tx_inj]
  simp [tx, PyData.eqv]
theorem eqvAll_txs : ∀ (A B : List Tx), PyData.eqvAll (A.map tx) (B.map tx) = decide (A = B)
  | [], [] => by simp [PyData.eqvAll]
  | [], b :: B => by simp [PyData.eqvAll]
  | a :: A, [] => by simp [PyData.eqvAll]
  | a :: A, b :: B => by simp [PyData.eqvAll, eqv_tx, eqvAll_txs A B]
namespace M
end M
end En

set_option Elab.async false
set_option linter.all false
set_option maxRecDepth 100000
set_option maxHeartbeats 4000000
namespace En
open PySem L2

theorem ans_imms {b m : Bool} {ds : List D} (h : imms ds = true) : ans b (.ow m (.list ds)) = .ok (.ow false (.list ds)) := by
  cases b <;> cases m <;> simp [ans, h]
@[simp] theorem ans_txs (b m : Bool) (l : List Tx) : ans b (.ow m (.list (l.map tx))) = .ok (.ow false (.list (l.map tx))) := ans_imms (imms_tx l)
@[simp] theorem ans_nats (b m : Bool) (l : List Nat) : ans b (.ow m (.list (l.map fun (p : Nat) => PyData.int (p : Int)))) = .ok (.ow false (.list (l.map fun (p : Nat) => PyData.int (p : Int)))) := ans_imms (by induction l with | nil => simp | cons a l ih => simp [ih])
@[simp] theorem ans_ints (b m : Bool) (l : List Int) : ans b (.ow m (.list (l.map PyData.int))) = .ok (.ow false (.list (l.map PyData.int))) := ans_imms (by induction l with | nil => simp | cons a l ih => simp [ih])
theorem sem_list (ds : List D) : semBi "list" ds = s_list ds := by
  unfold semBi
  rw [if_neg (by decide), if_pos rfl]
@[simp] theorem bi_list_l (l : List D) : semBi "list" [.list l] = some (true, .list l) := sem_list _
@[simp] theorem bi_list_t (l : List D) : semBi "list" [.tuple l] = some (true, .list l) := sem_list _
end En

set_option Elab.async false
set_option linter.all false
set_option maxRecDepth 100000
set_option maxHeartbeats 4000000
namespace En
open PySem PySem.Spec PyProof.Rows L2

/-! ### a def of one parameter that tells a text with a sign replaced -/
section
variable {P : Program} {w : World} {K : PySem.W.Frag} {mg : Str → Option Value} {base : Heap}
end
end En

set_option Elab.async false
set_option linter.all false
set_option maxRecDepth 100000
set_option maxHeartbeats 4000000
namespace En
open PySem L2

/-! ### rules -/
abbrev Ru := Tx × Tx × Tx
def rl (r : Ru) : D := .tuple [tx r.1, tx r.2.1, tx r.2.2]
def passT : Tx := [112, 97, 115, 115]
def dropT : Tx := [100, 114, 111, 112]
@[simp] theorem lit_pass : (PyData.str (Str.ofString "pass") : D) = tx passT := (rfl)
@[simp] theorem lit_drop : (PyData.str (Str.ofString "drop") : D) = tx dropT := (rfl)
@[simp] theorem pass_ne : ¬ passT = dropT := by decide
def RuOk (m : Nat) (r : Ru) : Prop := Row m r.1 ∧ Row m r.2.2 ∧ (r.2.1 = passT ∨ r.2.1 = dropT)
@[simp] theorem imm_rl (r : Ru) : imm (rl r) = true := by simp [rl]
@[simp] theorem imms_rl (l : List Ru) : imms (l.map rl) = true := by
  induction l with
  | nil => simp
  | cons a l ih => simp [ih]
@[simp] theorem ans_rls (b m : Bool) (l : List Ru) : ans b (.ow m (.list (l.map rl))) = .ok (.ow false (.list (l.map rl))) := ans_imms (imms_rl l)
theorem rl0 (r : Ru) : semIx (rl r) (.int 0) = some (tx r.1) := ix_tup (i := 0) rfl
theorem rl1 (r : Ru) : semIx (rl r) (.int 1) = some (tx r.2.1) := ix_tup (i := 1) rfl
theorem rl2 (r : Ru) : semIx (rl r) (.int 2) = some (tx r.2.2) := ix_tup (i := 2) rfl
/-- the first that has a mark -/
noncomputable def firstOf (P : Ru → Prop) (rs : List Ru) : Nat := rs.findIdx fun r => @decide (P r) (Classical.propDecidable _)
theorem first_at {P : Ru → Prop} {rs : List Ru} {i : Nat} (h : ∀ r ∈ rs.take i, ¬ P r) (hi : i < rs.length) (hp : P rs[i]) : firstOf P rs = i := by
  unfold firstOf
  rw [List.findIdx_eq hi]
  refine ⟨@decide_eq_true _ (Classical.propDecidable _) hp, fun j hj => @decide_eq_false _ (Classical.propDecidable _) (h _ ?_)⟩
  rw [← List.getElem_take (j := i) (h := by rw [List.length_take]; omega)]
  exact List.getElem_mem _
theorem first_no {P : Ru → Prop} {rs : List Ru} (h : ∀ r ∈ rs, ¬ P r) : firstOf P rs = rs.length := by
  unfold firstOf
  rw [List.findIdx_eq_length]
  exact fun r hr => @decide_eq_false _ (Classical.propDecidable _) (h r hr)
theorem first_le (P : Ru → Prop) (rs : List Ru) : firstOf P rs ≤ rs.length := List.findIdx_le_length
@[simp] theorem isi_int_i (i : Int) : semIsi (.int i) "int" = some true := by
  unfold semIsi
  rw [if_neg (by decide), if_neg (by decide), if_pos rfl]
@[simp] theorem isi_bool_i (i : Int) : semIsi (.int i) "bool" = some false := isi_bool _
@[simp] theorem isi_tup_t (l : List D) : semIsi (.tuple l) "tuple" = some true := by
  unfold semIsi
  rw [if_neg (by decide), if_neg (by decide), if_neg (by decide), if_neg (by decide), if_pos rfl]
namespace M
def rules : MF := ⟨7, (.cons (.set 2 (.lst .nil) true) (.cons (.for_ (.n 3) (.e (.v 0)) (.cons (.unp [4, 5] (.call "_law_shorts" (.cons (.lst (.cons (.bin .FloorDiv (.v 3) (.ki 4)) (.cons (.bin .Mod (.bin .Mult (.bin .FloorDiv (.v 3) (.ki 4)) (.ki 69621)) (.ki 1000003)) .nil))) (.cons (.v 1) .nil)))) (.cons (.set 6 (.ks "pass") false) (.cons (.ife (.cmp .Eq (.bin .Mod (.v 3) (.ki 4)) (.ki 0)) (.cons (.set 6 (.ks "drop") false) .nil) .nil) (.cons (.ife (.cmp .Eq (.bin .Mod (.v 3) (.ki 4)) (.ki 1)) (.cons (.set 5 (.bin .Mult (.ks "-") (.v 1)) false) .nil) .nil) (.cons (.ife (.cmp .Eq (.bin .Mod (.v 3) (.ki 4)) (.ki 2)) (.cons (.set 5 (.v 4) false) .nil) .nil) (.cons (.app 2 (.tup (.cons (.v 4) (.cons (.v 6) (.cons (.v 5) .nil))))) .nil))))))) (.cons (.reto 2) .nil)))⟩
def base : MF := ⟨3, (.cons (.ret (.mt (.ks "") "join" (.cons (.lc (.n 2) (.e (.call "_law_stream" (.cons (.v 0) (.cons (.v 1) .nil)))) .no (.ix (.ks "01") (.bin .Mod (.bin .FloorDiv (.v 2) (.ki 4)) (.ki 2)))) .nil))) .nil)⟩
def whole : MF := ⟨1, (.cons (.ret (.bop true (.cons (.isi (.v 0) "int") (.cons (.not_ (.isi (.v 0) "bool")) .nil)))) .nil)⟩
end M
end En

set_option Elab.async false
set_option linter.all false
set_option maxRecDepth 100000
set_option maxHeartbeats 4000000
namespace En
open PySem L2

@[simp] theorem mk_rl (m : Bool) (r : Ru) : mk m false (rl r) = .fr m (rl r) := mk_tup _ _
theorem rl_at {rs : List Ru} {i : Nat} (h : i < rs.length) : semIx (.list (rs.map rl)) (.int (i : Int)) = some (rl rs[i]) := ix_list (by rw [List.getElem?_map, List.getElem?_eq_getElem h]; rfl)
def dropD : D := .tuple [tx dropT, .none]
/-- what rules do to a letter -/
noncomputable def deedOf (P : Ru → Prop) (rs : List Ru) (l : Tx) : D := match rs[firstOf P rs]? with
  | some r => if r.2.1 = dropT then dropD else .tuple [tx passT, tx (wr l r.2.2)]
  | none => dropD
theorem deed_none {P : Ru → Prop} {rs : List Ru} {l : Tx} (h : firstOf P rs = rs.length) : deedOf P rs l = dropD := by
  unfold deedOf
  rw [h, List.getElem?_eq_none (Nat.le_refl _)]
theorem deed_some {P : Ru → Prop} {rs : List Ru} {l : Tx} (h : firstOf P rs < rs.length) : deedOf P rs l = if rs[firstOf P rs].2.1 = dropT then dropD else .tuple [tx passT, tx (wr l rs[firstOf P rs].2.2)] := by
  unfold deedOf
  rw [List.getElem?_eq_getElem h]
namespace M
def wide : MF := ⟨7, (.cons (.set 3 (.lst .nil) true) (.cons (.for_ (.t [4, 5, 6]) (.e (.v 0)) (.cons (.app 3 (.tup (.cons (.call "_law_spread" (.cons (.v 4) (.cons (.v 1) (.cons (.bin .Mult (.ks "-") (.v 2)) .nil)))) (.cons (.v 5) (.cons (.call "_law_spread" (.cons (.v 6) (.cons (.v 1) (.cons (.bin .Mult (.ks "-") (.v 2)) .nil)))) .nil))))) .nil)) (.cons (.reto 3) .nil)))⟩
def ruleFirst : MF := ⟨4, (.cons (.for_ (.t [2, 3]) (.enum (.v 0)) (.cons (.ife (.call "row_holds" (.cons (.ix (.v 3) (.ki 0)) (.cons (.v 1) .nil))) (.cons (.ret (.v 2)) .nil) .nil) .nil)) (.cons (.ret (.bi "len" (.cons (.v 0) .nil))) .nil))⟩
theorem ruleFirst_ok {Γ : FT} {n : Nat} {X : Str → Prop} {K : Rv → Prop} (hf : HoldsAt Γ) (rs : List Ru) (c : Tx) (q : ∀ m, K (.fr m (.int (firstOf (fun r => Hold r.1 c) rs : Nat)))) : RS X (runF Γ n ruleFirst [.list (rs.map rl), tx c]) K := by
  obtain ⟨Γ1, n1, e1⟩ := hf
  refine rs_run ?_
  simp [ruleFirst, startE]
  obtain ⟨I, hI⟩ : ∃ I : Nat → List Sl → Prop, ∀ i e, I i e = ∃ (s s' : Sl), e = [.fr true (.list (rs.map rl)), .fr false (tx c), s, s'] ∧ ∀ r ∈ rs.take i, ¬ Hold r.1 c := ⟨_, fun _ _ => rfl⟩
  refine fs_for I ?_ (fun i d e hd h => ?_) (fun e h => ?_)
  · rw [hI]
    exact ⟨_, _, rfl, by simp⟩
  · rw [hI] at h
    obtain ⟨s, s', rfl, hn⟩ := h
    obtain ⟨d', hd', rfl⟩ := enum_at hd
    obtain ⟨hi', rfl⟩ := map_at hd'
    have g := take_get (List.getElem?_eq_getElem hi')
    simp [rl0, e_call e1]
    refine rowHolds_ok (Γ := Γ1) _ _ fun t ht => ?_
    cases t with
    | true =>
      simp
      have := first_at (P := fun r : Ru => Hold r.1 c) hn hi' (ht.mp rfl)
      rw [this] at q
      exact q _
    | false =>
      simp
      rw [hI]
      refine ⟨_, _, rfl, fun r hr => ?_⟩
      rw [g] at hr
      rcases List.mem_append.mp hr with hr | hr
      · exact hn r hr
      · rw [List.mem_singleton.mp hr]
        exact fun z => by have := ht.mpr z; cases this
  · rw [hI] at h
    obtain ⟨s, s', rfl, hn⟩ := h
    have hn : ∀ r ∈ rs, ¬ Hold r.1 c := fun r hr => hn r (by rw [List.take_of_length_le (by rw [enumD_length]; simp)]; exact hr)
    simp
    rw [first_no (P := fun r : Ru => Hold r.1 c) hn] at q
    exact q _
def ruleDeed : MF := ⟨3, (.cons (.set 2 (.call "rule_first" (.cons (.v 0) (.cons (.v 1) .nil))) false) (.cons (.ife (.bop false (.cons (.cmp .Eq (.v 2) (.bi "len" (.cons (.v 0) .nil))) (.cons (.cmp .Eq (.ix (.ix (.v 0) (.v 2)) (.ki 1)) (.ks "drop")) .nil))) (.cons (.ret (.tup (.cons (.ks "drop") (.cons .kn .nil)))) .nil) .nil) (.cons (.ret (.tup (.cons (.ks "pass") (.cons (.call "row_written" (.cons (.v 1) (.cons (.ix (.ix (.v 0) (.v 2)) (.ki 2)) .nil))) .nil)))) .nil)))⟩
def RuleFirstAt (Γ : FT) : Prop := ∃ Γ' n, HoldsAt Γ' ∧ Γ "rule_first" = some (2, fun ds => runF Γ' n ruleFirst ds)
def WrittenAt (Γ : FT) : Prop := ∃ Γ' n, Γ "row_written" = some (2, fun ds => runF Γ' n written ds)
theorem ruleDeed_ok {Γ : FT} {n : Nat} {X : Str → Prop} {K : Rv → Prop} (hf : RuleFirstAt Γ) (hw : WrittenAt Γ) (rs : List Ru) (c : Tx) (hc : c.length ≤ 1000) (q : K (.fr false (deedOf (fun r => Hold r.1 c) rs c))) : RS X (runF Γ n ruleDeed [.list (rs.map rl), tx c]) K := by
  obtain ⟨Γ1, n1, hf', e1⟩ := hf
  obtain ⟨Γ2, n2, e2⟩ := hw
  refine rs_run ?_
  simp [ruleDeed, startE, e_call e1]
  refine ruleFirst_ok (Γ := Γ1) hf' rs c fun mm => ?_
  have hle := first_le (fun r => Hold r.1 c) rs
  by_cases hk : firstOf (fun r => Hold r.1 c) rs < rs.length
  · rw [deed_some hk] at q
    generalize firstOf (fun r => Hold r.1 c) rs = k at *
    have hne : ¬ ((k : Int) = (rs.length : Int)) := by omega
    simp [hne, rl_at hk, rl1, rl2, e_call e2, sz 2 (by decide)]
    refine ⟨fun hd => ?_, fun hd => ?_⟩
    · rw [if_pos hd] at q; exact q
    · rw [if_neg hd] at q
      refine written_ok (Γ := Γ2) c _ hc ?_
      simp [sz 2 (by decide)]
      exact q
  · have hk : firstOf (fun r => Hold r.1 c) rs = rs.length := by omega
    rw [deed_none hk] at q
    rw [hk]
    simp [sz 2 (by decide)]
    exact q
end M
end En

set_option Elab.async false
set_option linter.all false
set_option maxRecDepth 100000
set_option maxHeartbeats 4000000
namespace En
open PySem L2

/-- so deep at most -/
def Nc (k : Nat) (d : D) : Prop := d.canLay0 = true ∧ d.depth ≤ k
theorem Nc.shp {k : Nat} {d : D} (h : Nc k d) (hk : k ≤ 64) : shp d = true := by
  show (d.canLay0 && decide (d.depth ≤ 64)) = true
  rw [h.1, Bool.true_and, decide_eq_true_iff]
  exact Nat.le_trans h.2 hk
theorem nc_all {k : Nat} : ∀ {l : List D}, (∀ d ∈ l, Nc k d) → PyData.canLayAll0 l = true ∧ PyData.depthAll l ≤ k
  | [], _ => ⟨by simp [PyData.canLayAll0], by simp [PyData.depthAll]⟩
  | d :: l, h => by
    have a := nc_all fun e he => h e (List.mem_cons_of_mem _ he)
    have b := h d List.mem_cons_self
    refine ⟨by simp [PyData.canLayAll0, a.1, b.1], ?_⟩
    have := a.2
    have := b.2
    simp only [PyData.depthAll]
    omega
theorem nc_list {k : Nat} {l : List D} (h : ∀ d ∈ l, Nc k d) : Nc (k + 1) (.list l) := by
  have a := nc_all h
  refine ⟨by simp [PyData.canLay0, a.1], ?_⟩
  have := a.2
  simp only [PyData.depth]
  omega
theorem nc_tup {k : Nat} {l : List D} (h : ∀ d ∈ l, Nc k d) : Nc (k + 1) (.tuple l) := by
  have a := nc_all h
  refine ⟨by simp [PyData.canLay0, a.1], ?_⟩
  have := a.2
  simp only [PyData.depth]
  omega
theorem Flat.nc {d : D} (h : Flat d) : Nc 0 d := ⟨h.1, by rw [h.2]; exact Nat.le_refl _⟩
theorem nc_two {a b : D} (ha : Nc 0 a) (hb : Nc 0 b) : Nc 1 (.tuple [a, b]) := nc_tup fun d hd => by
  simp only [List.mem_cons, List.not_mem_nil, or_false] at hd
  rcases hd with rfl | rfl
  · exact ha
  · exact hb
namespace M
end M
end En

set_option Elab.async false
set_option linter.all false
set_option maxRecDepth 100000
set_option maxHeartbeats 4000000
namespace En
open PySem L2

/-- a part with the number of its rule -/
def sh (p : Tx × Nat) : D := .tuple [tx p.1, .int (p.2 : Int)]
@[simp] theorem imm_sh (p : Tx × Nat) : imm (sh p) = true := by simp [sh]
@[simp] theorem imms_sh (l : List (Tx × Nat)) : imms (l.map sh) = true := by
  induction l with
  | nil => simp
  | cons a l ih => simp [ih]
@[simp] theorem ans_shs (b m : Bool) (l : List (Tx × Nat)) : ans b (.ow m (.list (l.map sh))) = .ok (.ow false (.list (l.map sh))) := ans_imms (imms_sh l)
namespace M
end M
end En

set_option Elab.async false
set_option linter.all false
set_option maxRecDepth 100000
set_option maxHeartbeats 4000000
namespace En
open PySem L2

@[simp] theorem mk_sh (m : Bool) (p : Tx × Nat) : mk m false (sh p) = .fr m (sh p) := mk_tup _ _
@[simp] theorem isi_tup_sh (p : Tx × Nat) : semIsi (sh p) "tuple" = some true := isi_tup_t _
@[simp] theorem len_sh (p : Tx × Nat) : s_len [sh p] = some (false, .int 2) := (rfl)
namespace M
end M
end En

set_option Elab.async false
set_option linter.all false
set_option maxRecDepth 100000
set_option maxHeartbeats 4000000
namespace En
open PySem L2

namespace M
end M
end En

set_option Elab.async false
set_option linter.all false
set_option maxRecDepth 100000
set_option maxHeartbeats 4000000
namespace En
open PySem L2

/-! ### a text cut behind some statements -/
def takeS : Nat → MSs → MSs
  | 0, _ => .nil
  | _, .nil => .nil
  | k + 1, .cons s r => .cons s (takeS k r)
  | k + 1, .frz i r => .frz i (takeS k r)
def dropS : Nat → MSs → MSs
  | 0, s => s
  | _, .nil => .nil
  | k + 1, .cons _ r => dropS k r
  | k + 1, .frz _ r => dropS k r
theorem evSs_cut {Γ : FT} {fuel : Nat} : ∀ (k : Nat) (s : MSs) (env : List Sl), evSs Γ fuel s env = (evSs Γ fuel (takeS k s) env).then fun e => evSs Γ fuel (dropS k s) e
  | 0, s, env => by simp [takeS, dropS]
  | k + 1, .nil, env => by simp [takeS, dropS]
  | k + 1, .cons s r, env => by
    simp only [takeS, dropS, ss_cons]
    cases evS Γ fuel s env <;> simp [Fl.then]
    exact evSs_cut k r _
  | k + 1, .frz i r, env => by
    simp only [takeS, dropS, ss_frz]
    cases env[i]? with
    | none => rfl
    | some x =>
      cases x with
      | ow m d => exact evSs_cut k r _
      | _ => rfl
theorem fs_at {X : Str → Prop} {B C : List Sl → Prop} {Q : Rv → Prop} {N : List Sl → Prop} {Γ : FT} {fuel : Nat} {s : MSs} {env : List Sl} (k : Nat) (M : List Sl → Prop) (h1 : FS X B C Q (evSs Γ fuel (takeS k s) env) M) (h2 : ∀ e, M e → FS X B C Q (evSs Γ fuel (dropS k s) e) N) : FS X B C Q (evSs Γ fuel s env) N := by
  rw [evSs_cut k, fs_then]
  exact fs_imp h1 h2
namespace M
end M
end En

set_option Elab.async false
set_option linter.all false
set_option maxRecDepth 100000
set_option maxHeartbeats 4000000
namespace En
open PySem L2

/-! ### ways -/
def Sm (l : Tx) : Prop := ∀ c ∈ l, c < 1114112
abbrev Wy := Tx × Tx
def wy (p : Wy) : D := .tuple [tx p.1, tx p.2]
@[simp] theorem imm_wy (p : Wy) : imm (wy p) = true := by simp [wy]
@[simp] theorem imms_wy (l : List Wy) : imms (l.map wy) = true := by
  induction l with
  | nil => simp
  | cons a l ih => simp [ih]
@[simp] theorem ans_wys (b m : Bool) (l : List Wy) : ans b (.ow m (.list (l.map wy))) = .ok (.ow false (.list (l.map wy))) := ans_imms (imms_wy l)
@[simp] theorem mk_wy (m : Bool) (p : Wy) : mk m false (wy p) = .fr m (wy p) := mk_tup _ _
theorem nc_sm {l : Tx} (h : Sm l) : Nc 0 (tx l) := (flat_tx h).nc
theorem starts_tx (s b : Tx) : semMt (tx s) "startswith" [tx b] = some (false, .bool (decide (b <+: s))) := by
  unfold semMt
  rw [if_neg (by decide), if_pos rfl]
  show some (false, PyData.bool ((⟨s.toArray⟩ : Str).cps.toList.take (⟨b.toArray⟩ : Str).length == (⟨b.toArray⟩ : Str).cps.toList)) = _
  congr 3
  rw [Bool.eq_iff_iff, beq_iff_eq, decide_eq_true_iff, List.prefix_iff_eq_take]
  have : (⟨b.toArray⟩ : Str).length = b.length := by simp [Str.length]
  rw [this]
  exact ⟨fun h => h.symm, fun h => h.symm⟩
namespace M
def wayFound : MF := ⟨6, (.cons (.set 2 .kn false) (.cons (.set 3 (.neg (.ki 1)) false) (.cons (.for_ (.t [4, 5]) (.e (.v 0)) (.cons (.ife (.bop true (.cons (.mt (.v 1) "startswith" (.cons (.v 4) .nil)) (.cons (.cmp .Gt (.bi "len" (.cons (.v 4) .nil)) (.v 3)) .nil))) (.cons (.set 2 (.v 5) false) (.cons (.set 3 (.bi "len" (.cons (.v 4) .nil)) false) .nil)) .nil) .nil)) (.cons (.ret (.v 2)) .nil))))⟩
end M
end En

set_option Elab.async false
set_option linter.all false
set_option maxRecDepth 100000
set_option maxHeartbeats 4000000
namespace En
open PySem L2

def abcT : Tx := [97, 98, 99, 100, 101, 102, 103, 104, 105, 106, 107, 108, 109, 110, 111, 112, 113, 114, 115, 116, 117, 118, 119, 120, 121, 122]
@[simp] theorem lit_abc : (PyData.str (Str.ofString "abcdefghijklmnopqrstuvwxyz") : D) = tx abcT := (rfl)
theorem abc_sm : Sm abcT := by
  unfold Sm abcT
  decide
theorem sm_take {a : Tx} {k : Nat} (h : Sm a) : Sm (a.take k) := fun c hc => h c (List.mem_of_mem_take hc)
namespace M
def names : MF := ⟨7, (.cons (.set 2 (.ks "abcdefghijklmnopqrstuvwxyz") false) (.cons (.set 3 (.mt (.ks "") "join" (.cons (.lc (.n 5) (.e (.call "_law_stream" (.cons (.bin .FloorDiv (.v 0) (.ki 3)) (.cons (.ki 8) .nil)))) .no (.ix (.v 2) (.bin .Mod (.v 5) (.ki 26)))) .nil)) false) (.cons (.ife (.bop true (.cons (.cmp .Eq (.bin .Mod (.v 0) (.ki 3)) (.ki 1)) (.cons (.cmp .LtE (.v 1) (.ki 8)) .nil))) (.cons (.ret (.lc (.n 6) (.r1 (.v 1)) .no (.sl (.v 3) .no (.so (.bin .Add (.v 6) (.ki 1)))))) .nil) .nil) (.cons (.set 3 (.sl (.v 3) .no (.so (.bin .Add (.ki 1) (.bin .Mod (.bin .FloorDiv (.v 0) (.ki 3)) (.ki 8))))) false) (.cons (.set 4 (.bin .Mod (.bin .FloorDiv (.v 0) (.ki 24)) (.bi "len" (.cons (.v 3) .nil))) false) (.cons (.ret (.lc (.n 6) (.r1 (.v 1)) .no (.bin .Add (.bin .Add (.sl (.v 3) .no (.so (.v 4))) (.ix (.v 2) (.bin .Mod (.bin .Add (.bin .FloorDiv (.v 0) (.ki 3)) (.bin .Mult (.ki 7) (.v 6))) (.ki 26)))) (.sl (.v 3) (.so (.bin .Add (.v 4) (.ki 1))) .no)))) .nil))))))⟩
def ways : MF := ⟨10, (.cons (.set 3 (.lst .nil) true) (.cons (.set 4 (.lst .nil) true) (.cons (.for_ (.n 5) (.e (.v 0)) (.cons (.set 6 (.bin .Mod (.v 5) (.bin .Add (.v 1) (.ki 1))) false) (.cons (.set 7 (.mt (.ks "") "join" (.cons (.lc (.n 9) (.e (.call "_law_stream" (.cons (.bin .Mod (.bin .FloorDiv (.v 5) (.ki 49)) (.ki 3)) (.cons (.v 6) .nil)))) .no (.ix (.ks "01") (.bin .Mod (.bin .FloorDiv (.v 9) (.ki 8)) (.ki 2)))) .nil)) false) (.cons (.ife (.bop true (.cons (.cmp .Gt (.v 6) (.ki 0)) (.cons (.cmp .Gt (.bin .Mod (.bin .FloorDiv (.v 5) (.ki 147)) (.ki 3)) (.ki 0)) .nil))) (.cons (.set 8 (.bin .Mod (.bin .FloorDiv (.v 5) (.ki 441)) (.v 6)) false) (.cons (.set 7 (.bin .Add (.bin .Add (.sl (.v 7) .no (.so (.v 8))) (.ix (.ks "10") (.bi "int" (.cons (.ix (.v 7) (.v 8)) .nil)))) (.sl (.v 7) (.so (.bin .Add (.v 8) (.ki 1))) .no)) false) .nil)) .nil) (.cons (.ife (.cmp .NotIn (.v 7) (.v 4)) (.cons (.app 4 (.v 7)) (.cons (.app 3 (.tup (.cons (.v 7) (.cons (.ix (.v 2) (.bin .Mod (.bin .FloorDiv (.v 5) (.ki 7)) (.bi "len" (.cons (.v 2) .nil)))) .nil)))) .nil)) .nil) .nil))))) (.cons (.reto 3) .nil))))⟩
end M
end En

set_option Elab.async false
set_option linter.all false
set_option maxRecDepth 100000
set_option maxHeartbeats 4000000
namespace En
open PySem L2

/-! ### a rule that is needed -/
namespace M
end M
end En

set_option Elab.async false
set_option linter.all false
set_option maxRecDepth 100000
set_option maxHeartbeats 4000000
namespace En
open PySem L2

def ro : Option Ru → D
  | some r => rl r
  | none => .none
@[simp] theorem is_rl (r : Ru) : isO (rl r) .none = some false := (rfl)
namespace M
end M
end En

set_option Elab.async false
set_option linter.all false
set_option maxRecDepth 100000
set_option maxHeartbeats 4000000
namespace En
open PySem L2

/-! ### deeds side by side -/
theorem row_sm {w : Nat} {r : Tx} (h : Row w r) : Sm r := fun c hc => sg_small (h.2 c hc)
namespace M
def back : MF := ⟨7, (.cons (.set 4 (.lst .nil) true) (.cons (.set 5 (.ki 0) false) (.cons (.for_ (.n 6) (.e (.v 3)) (.cons (.whl (.bop true (.cons (.cmp .Lt (.v 5) (.bi "len" (.cons (.v 0) .nil))) (.cons (.cmp .NotEq (.ix (.v 0) (.v 5)) (.v 6)) .nil))) (.cons (.set 5 (.bin .Add (.v 5) (.ki 1)) false) .nil)) (.cons (.ife (.bop false (.cons (.cmp .Eq (.v 5) (.bi "len" (.cons (.v 0) .nil))) (.cons (.not_ (.isi (.v 6) "tuple")) .nil))) (.cons (.ret .kn) .nil) .nil) (.cons (.app 4 (.ix (.v 1) (.v 5))) (.cons (.set 5 (.bin .Add (.v 5) (.ki 1)) false) .nil))))) (.cons (.reto 4) .nil))))⟩
def deeds : MF := ⟨3, (.cons (.ret (.lc (.n 2) (.e (.v 1)) .no (.call "_law_deed" (.cons (.v 0) (.cons (.v 2) .nil))))) .nil)⟩
end M
end En

set_option Elab.async false
set_option linter.all false
set_option maxRecDepth 100000
set_option maxHeartbeats 4000000
namespace En
open PySem L2

/-! ### the door of signs -/
theorem nodup_erase {ws : List Wy} (hn : (ws.map (·.1)).Nodup) (n : Nat) : ((ws.eraseIdx n).map (·.1)).Nodup := (List.eraseIdx_sublist ws n).map (·.1) |>.nodup hn
/-! ### rows of beginnings -/
/-- well-formed ways -/
def WysOk (b : Nat) (ws : List Wy) : Prop := (ws.map (·.1)).Nodup ∧ ∀ v ∈ ws, Ltr v.1.length v.1 ∧ v.1.length ≤ b ∧ Sm v.2
theorem WysOk.erase {b : Nat} {ws : List Wy} (h : WysOk b ws) (n : Nat) : WysOk b (ws.eraseIdx n) := ⟨nodup_erase h.1 n, fun v hv => h.2 v ((List.eraseIdx_sublist ws n).subset hv)⟩
namespace M
def WayFoundAt (Γ : FT) : Prop := ∃ Γ' n, Γ "way_found" = some (2, fun ds => runF Γ' n wayFound ds)
end M
end En

set_option Elab.async false
set_option linter.all false
set_option maxRecDepth 100000
set_option maxHeartbeats 4000000
namespace En
open PySem L2

@[simp] theorem isi_tup_wy (p : Wy) : semIsi (wy p) "tuple" = some true := isi_tup_t _
theorem ltr_sm {n : Nat} {l : Tx} (h : Ltr n l) : Sm l := row_sm h.row
/-! ### doors side by side -/
namespace M
end M
end En

set_option Elab.async false
set_option linter.all false
set_option maxRecDepth 100000
set_option maxHeartbeats 4000000
namespace En
open PySem L2

namespace M
end M
end En

set_option Elab.async false
set_option linter.all false
set_option maxRecDepth 100000
set_option maxHeartbeats 8000000
namespace En
open PySem PySem.Spec PyProof.Rows L2

/-! ### texts with a sign replaced, anywhere: a token is out -/
section
variable {X : Cx} {T name id : String} {r : V → List V → Hp → VK → Prop} {o e : Expr} {es : List Expr} {to : TE} {t : TA} {apos cpos : Pos}
end
section
variable {Γ : FT} {k fuel : Nat} {ex : Ex}
end
section
variable {Γ : FT} {k fuel : Nat} {ex : Ex}
end
section
variable {P : Program} {w : World} {K : PySem.W.Frag} {mg : Str → Option Value} {base : Heap}
end
end En

set_option Elab.async false
set_option linter.all false
set_option maxRecDepth 100000
set_option maxHeartbeats 4000000
namespace En
open PySem L2

namespace M
end M
end En

set_option Elab.async false
set_option linter.all false
set_option maxRecDepth 100000
set_option maxHeartbeats 4000000
namespace En
open PySem L2

theorem in_sgt (c : Nat) (l : Tx) : inO (tx [c]) (tx l) = some (decide (c ∈ l)) := by
  show some (decide (c ∈ (⟨l.toArray⟩ : Str).cps.toList)) = _
  simp
namespace M
def due : MF := ⟨4, (.cons (.ife (.bop false (.cons (.not_ (.isi (.v 0) "str")) (.cons (.cmp .NotEq (.bi "len" (.cons (.v 0) .nil)) (.v 1)) .nil))) (.cons (.ret (.kb false)) .nil) .nil) (.cons (.ret (.cmp .Eq (.lc (.n 3) (.e (.v 0)) (.so (.cmp .NotIn (.v 3) (.v 2))) (.v 3)) (.lst .nil))) .nil))⟩
def isRowP : MF := ⟨3, (.cons (.ife (.bop false (.cons (.not_ (.isi (.v 0) "str")) (.cons (.cmp .NotEq (.bi "len" (.cons (.v 0) .nil)) (.v 1)) .nil))) (.cons (.ret (.kb false)) .nil) .nil) (.cons (.for_ (.n 2) (.e (.v 0)) (.cons (.ife (.cmp .NotIn (.v 2) (.ks "01-")) (.cons (.ret (.kb false)) .nil) .nil) .nil)) (.cons (.ret (.kb true)) .nil)))⟩
theorem isRowP_ok {Γ : FT} {n : Nat} {X : Str → Prop} {K : Rv → Prop} (l : Tx) (w : Nat) (hl : l.length ≤ 1000) (q : K (.fr false (.bool (decide (l.length = w ∧ ∀ c ∈ l, c ∈ [48, 49, 45]))))) : RS X (runF Γ n isRowP [tx l, .int (w : Int)]) K := by
  refine rs_run ?_
  simp [isRowP, startE, len_tx (l := l) (sz _ (by omega))]
  refine ⟨fun h => ?_, fun h => ?_⟩
  · have : ¬(l.length = w ∧ ∀ c ∈ l, c ∈ [48, 49, 45]) := fun z => h (by omega)
    rw [decide_eq_false this] at q
    exact q
  · obtain ⟨I, hI⟩ : ∃ I : Nat → List Sl → Prop, ∀ i e, I i e = ∃ (s : Sl), e = [.fr false (tx l), .fr false (.int (w : Int)), s] ∧ ∀ c ∈ l.take i, c ∈ [48, 49, 45] := ⟨_, fun _ _ => rfl⟩
    refine fs_for I ?_ (fun i d e hd h' => ?_) (fun e h' => ?_)
    · rw [hI]
      exact ⟨_, rfl, by simp⟩
    · rw [hI] at h'
      obtain ⟨s, rfl, hall⟩ := h'
      obtain ⟨hi, rfl⟩ := map_at hd
      have g := take_get (List.getElem?_eq_getElem hi)
      have hm := List.getElem_mem hi
      have c1 := in_sgt l[i] [48, 49, 45]
      generalize l[i] = c at *
      generalize l.take i = t at *
      by_cases hc : c ∈ [48, 49, 45]
      · have d1 := decide_eq_true hc
        rw [d1] at c1
        simp [c1]
        rw [hI, g]
        refine ⟨_, rfl, fun x hx => ?_⟩
        rcases List.mem_append.mp hx with hx | hx
        · exact hall x hx
        · rw [List.mem_singleton.mp hx]; exact hc
      · have d1 := decide_eq_false hc
        rw [d1] at c1
        have : ¬(l.length = w ∧ ∀ c ∈ l, c ∈ [48, 49, 45]) := fun z => hc (z.2 c hm)
        rw [decide_eq_false this] at q
        simp [c1]
        exact q
    · rw [hI] at h'
      obtain ⟨s, rfl, hall⟩ := h'
      have : l.length = w ∧ ∀ c ∈ l, c ∈ [48, 49, 45] := by
        rw [List.length_map, List.take_of_length_le (Nat.le_refl _)] at hall
        exact ⟨by omega, hall⟩
      rw [decide_eq_true this] at q
      exact q
def isLetterP : MF := ⟨2, (.cons (.ret (.bop true (.cons (.call "is_row" (.cons (.v 0) (.cons (.v 1) .nil))) (.cons (.cmp .NotIn (.ks "-") (.v 0)) .nil)))) .nil)⟩
def IsRowPAt (Γ : FT) : Prop := ∃ Γ' n, Γ "is_row" = some (2, fun ds => runF Γ' n isRowP ds)
theorem isLetterP_ok {Γ : FT} {n : Nat} {X : Str → Prop} {K : Rv → Prop} (hs : IsRowPAt Γ) (l : Tx) (w : Nat) (hl : l.length ≤ 1000) (q : K (.fr false (.bool (decide (l.length = w ∧ ∀ c ∈ l, c ∈ [48, 49]))))) : RS X (runF Γ n isLetterP [tx l, .int (w : Int)]) K := by
  obtain ⟨Γ', n', e⟩ := hs
  refine rs_run ?_
  simp [isLetterP, startE, e_call e, in_sgt, -rs_bopA, -rs_bopO]
  refine isRowP_ok l w hl ?_
  simp
  have : (decide (l.length = w) && decide (∀ c ∈ l, c = 48 ∨ c = 49 ∨ c = 45) && !decide (45 ∈ l)) = decide (l.length = w ∧ ∀ c ∈ l, c ∈ [48, 49]) := by
    rw [Bool.eq_iff_iff]
    simp
    constructor
    · rintro ⟨⟨h1, h2⟩, h3⟩
      exact ⟨h1, fun c hc => by rcases h2 c hc with h | h | h; exact .inl h; exact .inr h; exact absurd (h ▸ hc) h3⟩
    · rintro ⟨h1, h2⟩
      exact ⟨⟨h1, fun c hc => by rcases h2 c hc with h | h; exact .inl h; exact .inr (.inl h)⟩, fun h => by rcases h2 _ h with h | h <;> cases h⟩
  rw [this]
  exact q
end M
end En

set_option Elab.async false
set_option linter.all false
set_option maxRecDepth 100000
set_option maxHeartbeats 4000000
namespace En
open PySem L2

/-- the ways, longer ones first -/
structure Srt (ws us : List Wy) : Prop where
  perm : us.Perm ws
  le : us.Pairwise fun a b => b.1.length ≤ a.1.length
/-- a part with its door -/
def shw (p : Tx × D) : D := .tuple [tx p.1, p.2]
namespace M
end M
end En

set_option Elab.async false
set_option linter.all false
set_option maxRecDepth 100000
set_option maxHeartbeats 4000000
namespace En
open PySem L2

@[simp] theorem shw0 (p : Tx × D) : semIx (shw p) (.int 0) = some (tx p.1) := ix_tup (i := 0) rfl
@[simp] theorem shw1 (p : Tx × D) : semIx (shw p) (.int 1) = some p.2 := ix_tup (i := 1) rfl
@[simp] theorem isi_tup_shw (p : Tx × D) : semIsi (shw p) "tuple" = some true := isi_tup_t _
@[simp] theorem len_shw (p : Tx × D) : s_len [shw p] = some (false, .int 2) := (rfl)
namespace M
end M
end En

set_option Elab.async false
set_option linter.all false
set_option maxRecDepth 100000
set_option maxHeartbeats 4000000
namespace En
open PySem PySem.Spec PyProof.Rows L2

/-! ### refusals: what is raised, what is caught -/
section
variable {P : Program} {w : World} {K : PySem.W.Frag} {mg : Str → Option Value} {base : Heap}
theorem all_cons {p : Str → Prop} {y : Str} {l : List Str} (h : p y) (r : ∀ x, x ∈ l → p x) : ∀ x, x ∈ y :: l → p x := fun x hx => by
  rcases List.mem_cons.mp hx with rfl | hx
  · exact h
  · exact r x hx
end
/-! ### the run's laws -/
section
variable {α β : Type} {Γ : FT} {fuel : Nat} {env : List Sl}
def movR (o : Option Sl) (i j : Nat) (env : List Sl) : Fl := match o with
  | some (.ow m d) => if i < env.length ∧ i ≠ j then .next ((env.set i (.ow m d)).set j .no) else .bad
  | _ => .bad
@[simp] theorem movR_ow (m : Bool) (d : D) (i j : Nat) : movR (some (.ow m d)) i j env = if i < env.length ∧ i ≠ j then .next ((env.set i (.ow m d)).set j .no) else .bad := (rfl)
@[simp] theorem s_mov (i j : Nat) : evS Γ fuel (.mov i j) env = movR env[j]? i j env := by rw [evS]; rfl
@[simp] theorem s_try (b : TB) (tb : List (Str × List (Nat × Str))) (n : Nat) (sx : List XSt) : evS Γ fuel (.try_ b tb n sx) env = tryR tb n env (evT Γ b env) := by rw [evS]
def tryE (o : Option (List (Nat × Str))) (n : Nat) (env : List Sl) : Fl := match o with
  | some l => if n < env.length then .next ((setZ l (env.set n .no)).set n .no) else .bad
  | none => .bad
@[simp] theorem tryE_some (l : List (Nat × Str)) (n : Nat) : tryE (some l) n env = if n < env.length then .next ((setZ l (env.set n .no)).set n .no) else .bad := (rfl)
@[simp] theorem tryR_next (tb : List (Str × List (Nat × Str))) (n : Nat) (e : List Sl) : tryR tb n env (.next e) = .next e := (rfl)
@[simp] theorem tryR_err (tb : List (Str × List (Nat × Str))) (n : Nat) (x : Str) : tryR tb n env (.err x) = tryE (tb.lookup x) n env := by unfold tryR tryE; rfl
@[simp] theorem tryR_ite (tb : List (Str × List (Nat × Str))) (n : Nat) (c : Prop) [Decidable c] (a b : Fl) : tryR tb n env (if c then a else b) = if c then tryR tb n env a else tryR tb n env b := by split <;> rfl
@[simp] theorem setZ_nil : setZ [] env = env := (rfl)
@[simp] theorem setZ_cons (p : Nat × Str) (l : List (Nat × Str)) : setZ (p :: l) env = setZ l (env.set p.1 (.fr false (.str p.2))) := (rfl)
@[simp] theorem t_ex (f : Str) (es : MEs) : evT Γ (.ex f es) env = .of (callR Γ env f es) fun _ => .next env := (rfl)
@[simp] theorem t_st (i : Nat) (own : Bool) (f : Str) (es : MEs) : evT Γ (.st i own f es) env = .of (callR Γ env f es) (put1 own i env) := (rfl)
@[simp] theorem t_if (c : ME) (a b : TB) : evT Γ (.if_ c a b) env = .of (noErr ((evE Γ env c).bind truth)) fun t => ifR t (evT Γ a env) (evT Γ b env) := by
  rw [evT]
  rfl
end
end En

set_option Elab.async false
set_option linter.all false
set_option maxRecDepth 100000
set_option maxHeartbeats 4000000
namespace En
open PySem L2

/-! ### layouts -/
abbrev Fd := Tx × Nat
def fl (p : Fd) : D := .tuple [tx p.1, .int (p.2 : Int)]
@[simp] theorem imm_fl (p : Fd) : imm (fl p) = true := by simp [fl]
@[simp] theorem imms_fl (l : List Fd) : imms (l.map fl) = true := by
  induction l with
  | nil => rfl
  | cons p l ih => simp [imms, ih]
def wid (l : List Fd) : Nat := (l.map (·.2)).sum
@[simp] theorem lit_right : (PyData.str (Str.ofString "right") : D) = tx [114, 105, 103, 104, 116] := (rfl)
@[simp] theorem lit_none : (PyData.str (Str.ofString "none") : D) = tx [110, 111, 110, 101] := (rfl)
theorem ix_abc2 (i : Int) (h0 : 0 ≤ i) (h1 : i < 26) : ∃ c, c < 1114112 ∧ abcT[i.toNat]? = some c ∧ semIx (tx abcT) (.int i) = some (tx [c]) := by
  obtain ⟨k, rfl⟩ := Int.eq_ofNat_of_zero_le h0
  have hk : k < abcT.length := by show k < 26; omega
  exact ⟨abcT[k], abc_sm _ (List.getElem_mem hk), by simpa using List.getElem?_eq_getElem hk, ix_tx (sz _ (by decide)) (List.getElem?_eq_getElem hk)⟩
theorem sum_nats (l : List Nat) : semBi "sum" [.list (l.map fun z : Nat => PyData.int (z : Int))] = some (false, .int (l.sum : Int)) := by
  have h := sum_ints (l.map fun z : Nat => (z : Int))
  rw [List.map_map] at h
  have hs : (l.map fun z : Nat => (z : Int)).sum = (l.sum : Int) := by
    clear h
    induction l with
    | nil => rfl
    | cons a l ih => simp [ih]
  rw [hs] at h
  exact h
namespace M
theorem nd_app {α : Type} {l : List α} {x : α} (h : l.Nodup) (hx : x ∉ l) : (l ++ [x]).Nodup := by
  rw [List.nodup_append]
  exact ⟨h, by simp, fun a ha b hb e => hx (by rw [List.mem_singleton] at hb; rw [← hb, ← e]; exact ha)⟩
def sizes : MF := ⟨5, (.cons (.ife (.cmp .Eq (.bin .Mod (.v 0) (.ki 4)) (.ki 1)) (.cons (.set 2 (.lc (.n 3) (.r1 (.v 1)) .no (.ki 1)) true) (.cons (.put 2 (.bin .Mod (.bin .FloorDiv (.v 0) (.ki 4)) (.v 1)) (.bin .Add (.ki 1) (.bin .Mod (.bin .FloorDiv (.v 0) (.ki 32)) (.ki 40)))) (.cons (.reto 2) .nil))) .nil) (.cons (.ret (.lc (.n 4) (.e (.call "_law_stream" (.cons (.v 0) (.cons (.v 1) .nil)))) .no (.bin .Add (.ki 1) (.bin .Mod (.v 4) (.ki 6))))) .nil))⟩
def layoutWidth : MF := ⟨3, (.cons (.ret (.bi "sum" (.cons (.lc (.t [1, 2]) (.e (.v 0)) .no (.v 2)) .nil))) .nil)⟩
theorem layoutWidth_eq {Γ : FT} {n : Nat} (ps : List Fd) (hp : ps.length ≤ 1000) : runF Γ n layoutWidth [.list (ps.map fl)] = .ok (.fr false (.int (wid ps : Int))) := by
  have main : RS (fun _ => False) (runF Γ n layoutWidth [.list (ps.map fl)]) fun v => v = .fr false (.int (wid ps : Int)) := by
    refine rs_run ?_
    simp [layoutWidth, startE]
    refine rs_lc (fun i m L => m = false ∧ L = ((ps.take i).map (·.2)).map fun z : Nat => PyData.int (z : Int)) ⟨rfl, rfl⟩ (fun i d m L hd' h => ?_) (fun m L h => ?_)
    · obtain ⟨rfl, rfl⟩ := h
      obtain ⟨hi, rfl⟩ := map_at hd'
      have e := take_get (l := ps) (List.getElem?_eq_getElem hi)
      generalize ps.take (i + 1) = T at *
      subst e
      generalize ps.take i = T at *
      simp [lcT, fl]
    · obtain ⟨rfl, rfl⟩ := h
      rw [List.length_map, List.take_of_length_le (Nat.le_refl _)]
      refine ⟨sz _ (by first | omega | (simp; omega)), ?_⟩
      rw [sum_nats, show (ps.map (·.2)).sum = wid ps from rfl]
      simp
  obtain ⟨a, e, rfl⟩ := rs_eq main
  exact e
def fieldPart : MF := ⟨5, (.cons (.unp [3, 4] (.call "field_span" (.cons (.v 0) (.cons (.v 1) .nil)))) (.cons (.ret (.sl (.v 2) (.so (.v 3)) (.so (.v 4)))) .nil))⟩
end M
end En

set_option Elab.async false
set_option linter.all false
set_option maxRecDepth 100000
set_option maxHeartbeats 4000000
namespace En
open PySem PySem.Spec PyProof.Rows L2

/-! ### more of the run's laws, for simp -/
section
variable {Γ : FT} {fuel : Nat} {env : List Sl}
@[simp] theorem own_ow (m : Bool) (d : D) : ownAt (some (.ow m d)) = some (none, m, d) := (rfl)
@[simp] theorem own_ko (a : Addr) (m : Bool) (d : D) : ownAt (some (.ko a m d)) = some (some a, m, d) := (rfl)
@[simp] theorem reow_no (m : Bool) (d : D) : reow none m d = .ow m d := (rfl)
@[simp] theorem reow_so (a : Addr) (m : Bool) (d : D) : reow (some a) m d = .ko a m d := (rfl)
def ownL (o : Option (Option Addr × Bool × D)) (f : Option Addr → Bool → List D → Fl) : Fl := match o with
  | some (o, m, .list ds) => f o m ds
  | _ => .bad
@[simp] theorem ownL_s (o : Option Addr) (m : Bool) (ds : List D) (f : Option Addr → Bool → List D → Fl) : ownL (some (o, m, .list ds)) f = f o m ds := (rfl)
def intF (d : D) (f : Int → Fl) : Fl := match d with
  | .int n => f n
  | _ => .bad
@[simp] theorem intF_i (n : Int) (f : Int → Fl) : intF (.int n) f = f n := (rfl)
def optF {α : Type} (o : Option α) (f : α → Fl) : Fl := match o with
  | some a => f a
  | none => .bad
@[simp] theorem optF_s {α : Type} (a : α) (f : α → Fl) : optF (some a) f = f a := (rfl)
theorem ixN_nat {n i : Nat} (h : i < n) : ixN n (i : Int) = some i := by
  unfold ixN
  simp
  omega
theorem sm_nat {n : Nat} (h : n < 2 ^ 62) : sm (n : Int) = true := by
  unfold sm
  simp only [Bool.and_eq_true, decide_eq_true_eq]
  omega
theorem optF_d {α : Type} (o : Option α) (f : α → Fl) : (match o with | some a => f a | none => Fl.bad) = optF o f := by cases o <;> rfl
theorem intF_d (d : D) (f : Int → Fl) : (match d with | .int n => f n | _ => Fl.bad) = intF d f := by cases d <;> rfl
theorem ownL_d (o : Option (Option Addr × Bool × D)) (f : Option Addr → Bool → List D → Fl) : (match o with | some (o, m, .list ds) => f o m ds | _ => Fl.bad) = ownL o f := by
  unfold ownL
  rcases o with _ | ⟨o, m, d⟩
  · rfl
  · cases d <;> rfl
theorem ownL_d2 (o o' : Option (Option Addr × Bool × D)) (f : Option Addr → Bool → List D → Option Addr → Bool → List D → Fl) : (match o, o' with | some (o, m, .list ds), some (o', m', .list es) => f o m ds o' m' es | _, _ => Fl.bad) = ownL o fun o m ds => ownL o' fun o' m' es => f o m ds o' m' es := by
  unfold ownL
  rcases o with _ | ⟨o, m, d⟩
  · rfl
  · cases d
    case list =>
      rcases o' with _ | ⟨o', m', d'⟩
      · rfl
      · cases d' <;> rfl
    all_goals rfl
@[simp] theorem s_ins (i : Nat) (k e : ME) : evS Γ fuel (.ins i k e) env = ownL (ownAt env[i]?) fun o m ds => .of (evE Γ env k) fun y => intF y.d fun n => .of (evE Γ env e) fun x => .of (sto x) fun p => if ds.length < sizeLine ∧ 0 ≤ n ∧ n < 2 ^ 63 then .next (env.set i (reow o (m || p.1) (.list (ds.take n.toNat ++ [p.2] ++ ds.drop n.toNat)))) else .bad := by
  rw [evS]
  simp only [Bool.and_eq_true, decide_eq_true_eq, and_assoc, ← ownL_d, ← intF_d]
  all_goals
    rcases ownAt env[i]? with _ | ⟨o, m, d⟩
    · rfl
    · cases d <;> rfl
@[simp] theorem s_popS (x i : Nat) : evS Γ fuel (.popS x i) env = ownL (ownAt env[i]?) fun o m ds => optF ds[ds.length - 1]? fun d => if i = x then .bad else setSl (env.set i (reow o m (.list ds.dropLast))) x (.fr m d) := by
  rw [evS]
  simp only [← optF_d, ← ownL_d]
  rcases ownAt env[i]? with _ | ⟨o, m, d⟩
  · rfl
  · cases d <;> try rfl
    dsimp only
    generalize (_ : List D)[(_ : Nat)]? = w
    cases w <;> rfl
@[simp] theorem s_popI (x i : Nat) (k : ME) : evS Γ fuel (.popI x i k) env = ownL (ownAt env[i]?) fun o m ds => .of (evE Γ env k) fun y => intF y.d fun n => if sm n then optF (ixN ds.length n) fun j => optF ds[j]? fun d => if i = x then .bad else setSl (env.set i (reow o m (.list (ds.eraseIdx j)))) x (.fr m d) else .bad := by
  rw [evS]
  simp only [← optF_d, ← ownL_d, ← intF_d]
  rcases ownAt env[i]? with _ | ⟨o, m, d⟩
  · rfl
  · cases d <;> try rfl
    dsimp only
    congr 1
    funext y
    generalize y.d = z
    cases z <;> try rfl
    dsimp only
    split
    · generalize ixN _ _ = w
      rcases w with _ | h <;> try rfl
      dsimp only
      generalize (_ : List D)[(h : Nat)]? = w
      cases w <;> rfl
    · rfl
@[simp] theorem s_appPop (i j : Nat) (k : ME) : evS Γ fuel (.appPop i j k) env = ownL (ownAt env[i]?) fun o m ds => ownL (ownAt env[j]?) fun o' m' es => .of (evE Γ env k) fun y => intF y.d fun n => if sm n then optF (ixN es.length n) fun h => optF es[h]? fun d => if i = j then .bad else if ds.length < sizeLine then .next ((env.set j (reow o' m' (.list (es.eraseIdx h)))).set i (reow o (m || m') (.list (ds ++ [d])))) else .bad else .bad := by
  rw [evS]
  simp only [← optF_d, ← ownL_d2, ← intF_d, decide_eq_true_eq]
  rcases ownAt env[i]? with _ | ⟨o, m, d⟩
  · rfl
  · cases d <;> try rfl
    rcases ownAt env[j]? with _ | ⟨o', m', d'⟩
    · rfl
    · cases d' <;> try rfl
      dsimp only
      congr 1
      funext y
      generalize y.d = z
      cases z <;> try rfl
      dsimp only
      split
      · generalize ixN _ _ = w
        rcases w with _ | h <;> try rfl
        dsimp only
        generalize (_ : List D)[(h : Nat)]? = w
        cases w <;> rfl
      · rfl
@[simp] theorem s_appTPop (i : Nat) (e : ME) (j : Nat) (k : ME) : evS Γ fuel (.appTPop i e j k) env = ownL (ownAt env[i]?) fun o m ds => ownL (ownAt env[j]?) fun o' m' es => .of (evE Γ env e) fun x => .of (sto x) fun p => .of (evE Γ env k) fun y => intF y.d fun n => if sm n then optF (ixN es.length n) fun h => optF es[h]? fun d => if i = j then .bad else if ds.length < sizeLine then .next ((env.set j (reow o' m' (.list (es.eraseIdx h)))).set i (reow o (m || (p.1 || m')) (.list (ds ++ [.tuple [p.2, d]])))) else .bad else .bad := by
  rw [evS]
  simp only [← optF_d, ← ownL_d2, ← intF_d, decide_eq_true_eq]
  rcases ownAt env[i]? with _ | ⟨o, m, d⟩
  · rfl
  · cases d <;> try rfl
    rcases ownAt env[j]? with _ | ⟨o', m', d'⟩
    · rfl
    · cases d' <;> try rfl
      dsimp only
      congr 1
      funext x
      congr 1
      funext p
      congr 1
      funext y
      generalize y.d = z
      cases z <;> try rfl
      dsimp only
      split
      · generalize ixN _ _ = w
        rcases w with _ | h <;> try rfl
        dsimp only
        generalize (_ : List D)[(h : Nat)]? = w
        cases w <;> rfl
      · rfl
@[simp] theorem s_popX (i : Nat) (k : ME) : evS Γ fuel (.popX i k) env = ownL (ownAt env[i]?) fun o m ds => .of (evE Γ env k) fun y => intF y.d fun n => if sm n then optF (ixN ds.length n) fun j => .next (env.set i (reow o m (.list (ds.eraseIdx j)))) else .bad := by
  rw [evS]
  simp only [← optF_d, ← ownL_d, ← intF_d]
  rcases ownAt env[i]? with _ | ⟨o, m, d⟩
  · rfl
  · cases d <;> try rfl
    dsimp only
    congr 1
    funext y
    generalize y.d = z
    cases z <;> try rfl
    dsimp only
    split
    · generalize ixN _ _ = w
      rcases w with _ | h <;> rfl
    · rfl
@[simp] theorem e_dK0 : evE Γ env .dK0 = .ok (.ow false (.dict [])) := by rw [evE]
@[simp] theorem e_dT0 : evE Γ env .dT0 = .ok (.ow false (.dict [(.none, .none)])) := by rw [evE]
def dicR (d : D) (f : List (D × D) → R Rv) : R Rv := match d with
  | .dict es => f es
  | _ => .bad
@[simp] theorem dicR_s (es : List (D × D)) (f : List (D × D) → R Rv) : dicR (.dict es) f = f es := (rfl)
def dgR (o : Option (Option D)) (m : Bool) (z : R Rv) : R Rv := match o with
  | some (some v) => .ok (mk m false v)
  | some none => z
  | none => .bad
@[simp] theorem dgR_s (v : D) (m : Bool) (z : R Rv) : dgR (some (some v)) m z = .ok (mk m false v) := (rfl)
@[simp] theorem dgR_n (m : Bool) (z : R Rv) : dgR (some none) m z = z := (rfl)
@[simp] theorem e_dix (a k : ME) : evE Γ env (.dix a k) = (evE Γ env a).bind fun x => dicR x.d fun es => (evE Γ env k).bind fun y => dgR (dget es y.d) x.m .bad := by
  rw [evE]
  congr 1
  funext x
  cases x.d <;> try rfl
  simp only [dicR]
  congr 1
  funext y
  rcases dget _ y.d with _ | _ | v <;> rfl
def ssetR : Option D → R Rv
  | some d => .ok (.ow false d)
  | none => .bad
@[simp] theorem ssetR_s (d : D) : ssetR (some d) = .ok (.ow false d) := (rfl)
@[simp] theorem e_sset (a : ME) : evE Γ env (.sset a) = (evE Γ env a).bind fun x => ssetR (semSet x.d) := by
  rw [evE]
  rfl
end
/-! ### loops that look for the first -/
section
variable {X : Str → Prop} {B C : List Sl → Prop} {Q : Rv → Prop} {N : List Sl → Prop}
theorem fs_find {β γ : Type} {f : D → List Sl → Fl} {enc : β → D} (S : List Sl → Prop) (g : β → Option γ) : ∀ {xs : List β} {env : List Sl}, S env →
    (∀ x e, x ∈ xs → S e → (g x = none → FS X N S Q (f (enc x) e) S) ∧ (∀ c, g x = some c → xs.findSome? g = some c → FS X (fun _ => False) (fun _ => False) Q (f (enc x) e) fun _ => False)) →
    (xs.findSome? g = none → ∀ e, S e → N e) → FS X B C Q (forR f (xs.map enc) env) N := by
  intro xs
  induction xs with
  | nil => exact fun h _ n => .next (n rfl _ h)
  | cons x xs ih =>
    intro env h hs n
    have h1 := hs x env List.mem_cons_self h
    have eq : forR f (enc x :: xs.map enc) env = (match f (enc x) env with | .next e => forR f (xs.map enc) e | .cnt e => forR f (xs.map enc) e | .brk e => .next e | a => a) := rfl
    rw [List.map_cons, eq]
    cases hg : g x with
    | none =>
      have h2 := h1.1 hg
      have nx : ∀ e, S e → FS X B C Q (forR f (xs.map enc) e) N := fun e he => ih he (fun y e hy hS => ⟨(hs y e (List.mem_cons_of_mem _ hy) hS).1, fun c hc hf => (hs y e (List.mem_cons_of_mem _ hy) hS).2 c hc (by rw [List.findSome?_cons, hg]; exact hf)⟩) fun hn => n (by rw [List.findSome?_cons, hg]; exact hn)
      cases e1 : f (enc x) env with
      | next e => rw [e1, fs_next] at h2; exact nx e h2
      | cnt e => rw [e1, fs_cnt] at h2; exact nx e h2
      | brk e => rw [e1, fs_brk] at h2; exact .next h2
      | ret r => rw [e1, fs_ret] at h2; exact .ret h2
      | err x => rw [e1, fs_err] at h2; exact .err h2
      | bad => rw [e1, fs_bad] at h2; exact h2.elim
    | some c =>
      have h2 := h1.2 c hg (by rw [List.findSome?_cons, hg])
      cases e1 : f (enc x) env with
      | next e => rw [e1, fs_next] at h2; exact h2.elim
      | cnt e => rw [e1, fs_cnt] at h2; exact h2.elim
      | brk e => rw [e1, fs_brk] at h2; exact h2.elim
      | ret r => rw [e1, fs_ret] at h2; exact .ret h2
      | err x => rw [e1, fs_err] at h2; exact .err h2
      | bad => rw [e1, fs_bad] at h2; exact h2.elim
end

/-! ### a def that calls itself, to a depth -/
def recG (Γ : FT) (x : Str) (np : Nat) (mf : MF) (fuel : Nat) : Nat → List D → R Rv
  | 0 => fun _ => .bad
  | n + 1 => fun ds => runF (put Γ x np (recG Γ x np mf fuel n)) fuel mf ds
section
variable {P : Program} {w : World} {K : PySem.W.Frag} {mg : Str → Option Value} {base : Heap}
theorem fns_rec {x : Str} {st : Stmt} {N ps : List Str} {k : Nat} {Γ : FT} (G : FnsOk P w K mg base k Γ) (h : Has K mg x st ps) (S : FnScope N ps (defScope st)) (mf : MF) (fuel : Nat)
    (hc : (decide (mf.slots = N.length) && decide (ps.length ≤ N.length) && okSs (exL []) N (defScope st) mf.body (defBody st)) = true) (blt : Blt mg) :
    ∀ n, FnsOk P w K mg base (k + 3 * (n + 1)) (put Γ x ps.length (recG Γ x ps.length mf fuel n)) := by
  obtain ⟨fa, fd, F, hm, hb⟩ := h
  have hc' := hc
  simp only [Bool.and_eq_true, decide_eq_true_eq] at hc'
  have old : ∀ {k' : Nat}, k ≤ k' → ∀ f n g, Γ f = some (n, g) → ∃ fa fd ps, FnOk P w K mg base (L2.CX P w) k' fa fd ps (spG mg n g) ∧ mg f = some (.ref fa) ∧ PySem.W.keepIn K (.ref fa) = true ∧ Binds K fd ps [] := fun {k'} hk f n g e => by
    obtain ⟨fa, fd, ps, F3, q⟩ := G f n g e
    exact ⟨fa, fd, ps, F3.mono hk, q⟩
  intro n
  induction n with
  | zero =>
    intro f n g e
    unfold put at e
    split at e
    · rename_i e1
      subst e1
      cases e
      refine ⟨fa, fd, ps, ?_, hm, F.kp, hb⟩
      exact F.okX S (fun vs H Q E h => h.1) fun cdv A outer s H vs Q E hr h => by
        obtain ⟨_, _, _, _, _, h⟩ := h
        exact h.elim
    · exact old (by omega) f n g e
  | succ n ih =>
    have F2 := fn_ok (P := P) (w := w) (base := base) F S mf hc'.1.1 hc'.1.2 (fun _ => fuel) hc'.2 blt ih rz0
    intro f n' g e
    unfold put at e
    split at e
    · rename_i e1
      subst e1
      cases e
      exact ⟨fa, fd, ps, F2, hm, F.kp, hb⟩
    · exact old (by omega) f n' g e
end

/-! ### plain data, copied and compared -/
inductive Pd : Nat → D → Prop
  | none {n : Nat} : Pd n .none
  | int {n : Nat} (i : Int) : Pd n (.int i)
  | str {n : Nat} (i : Str) : Pd n (.str i)
  | bool {n : Nat} (i : Bool) : Pd n (.bool i)
  | list {n : Nat} {ds : List D} : ds.length ≤ sizeLine → (∀ d ∈ ds, Pd n d) → Pd (n + 1) (.list ds)
  | tup {n : Nat} {ds : List D} : ds.length ≤ sizeLine → (∀ d ∈ ds, Pd n d) → Pd (n + 1) (.tuple ds)
theorem Pd.tx {n : Nat} (l : Tx) : Pd n (tx l) := .str _
theorem Pd.mono {n m : Nat} {d : D} (h : Pd n d) : n ≤ m → Pd m d := by
  induction h generalizing m with
  | none => exact fun _ => .none
  | int i => exact fun _ => .int i
  | str i => exact fun _ => .str i
  | bool i => exact fun _ => .bool i
  | list h1 _ ih =>
    intro hm
    obtain ⟨k, rfl⟩ : ∃ k, m = k + 1 := ⟨m - 1, by omega⟩
    exact .list h1 fun d hd => ih d hd (by omega)
  | tup h1 _ ih =>
    intro hm
    obtain ⟨k, rfl⟩ : ∃ k, m = k + 1 := ⟨m - 1, by omega⟩
    exact .tup h1 fun d hd => ih d hd (by omega)
theorem Pd.map {α : Type} {n : Nat} {enc : α → D} {l : List α} (hl : l.length ≤ sizeLine) (h : ∀ x ∈ l, Pd n (enc x)) : Pd (n + 1) (.list (l.map enc)) := .list (by simpa using hl) fun d hd => by
  obtain ⟨x, hx, rfl⟩ := List.mem_map.mp hd
  exact h x hx
namespace M
theorem isi_str' (d : D) : semIsi d "str" = some (match d with | .str _ => true | _ => false) := by
  unfold semIsi
  rw [if_pos rfl]
  all_goals rfl
theorem isi_int' (d : D) : semIsi d "int" = some (match d with | .bool _ => true | .int _ => true | _ => false) := by
  unfold semIsi
  rw [if_neg (by decide), if_neg (by decide), if_pos rfl]
  all_goals rfl
theorem isi_list' (d : D) : semIsi d "list" = some (match d with | .list _ => true | _ => false) := by
  unfold semIsi
  rw [if_neg (by decide), if_neg (by decide), if_neg (by decide), if_pos rfl]
  all_goals rfl
theorem isi_tuple' (d : D) : semIsi d "tuple" = some (match d with | .tuple _ => true | _ => false) := by
  unfold semIsi
  rw [if_neg (by decide), if_neg (by decide), if_neg (by decide), if_neg (by decide), if_pos rfl]
  all_goals rfl
theorem bi_tuple (l : List D) : semBi "tuple" [.list l] = some (false, .tuple l) := by
  unfold semBi
  repeat rw [if_neg (by decide)]
  first | rfl | (rw [if_pos rfl]; rfl)
def copyR (d : D) : Rv := match d with
  | .list ds => .ow false (.list ds)
  | d => .fr false d
def copy (x : Str) : MF := ⟨2, (.cons (.ife (.isi (.v 0) "list") (.cons (.ret (.lc (.n 1) (.e (.v 0)) .no (.call x (.cons (.v 1) .nil)))) .nil) .nil) (.cons (.ife (.isi (.v 0) "tuple") (.cons (.ret (.bi "tuple" (.cons (.lc (.n 1) (.e (.v 0)) .no (.call x (.cons (.v 1) .nil))) .nil))) .nil) .nil) (.cons (.ret (.v 0)) .nil)))⟩
theorem copy_eq {Γ : FT} {x : Str} {fuel : Nat} : ∀ (k n : Nat) (d : D), Pd n d → n < k → recG Γ x 1 (copy x) fuel k [d] = .ok (copyR d) := by
  intro k
  induction k with
  | zero => intro n d _ h; omega
  | succ k ih =>
    intro n d hd hk
    suffices h : RS (fun _ => False) (recG Γ x 1 (copy x) fuel (k + 1) [d]) fun v => v = copyR d by
      obtain ⟨a, e, rfl⟩ := rs_eq h
      exact e
    refine rs_run ?_
    have es : ∀ ds : List D, ds.length ≤ sizeLine → (∃ m, n = m + 1 ∧ ∀ d ∈ ds, Pd m d) → ∀ (s : Sl) (m0 : Bool) (K : Bool × List D → Prop), K (false, ds) → RS (fun _ => False) (lcR (lcT (put Γ x 1 (recG Γ x 1 (copy x) fuel k)) [s, .no] (.n 1) .no (.call x (.cons (.v 1) .nil)) m0) ds) K := fun ds hl hds s m0 K q => by
      obtain ⟨m, rfl, hds⟩ := hds
      refine rs_lc (fun i m L => m = false ∧ L = ds.take i) ⟨rfl, rfl⟩ (fun i d m1 L hd' h => ?_) fun m1 L h => ?_
      · obtain ⟨rfl, rfl⟩ := h
        have e := ih m d (hds d (List.mem_of_getElem? hd')) (by omega)
        simp [lcT, e_call (put_self (Γ := Γ) (x := x)), e]
        cases d <;> simp [copyR, take_get hd']
      · obtain ⟨rfl, rfl⟩ := h
        rwa [List.take_length]
    cases hd with
    | none => simp [copy, startE, copyR, isi_str', isi_int', isi_list', isi_tuple', isi_bool]
    | int i => simp [copy, startE, copyR, isi_str', isi_int', isi_list', isi_tuple', isi_bool]
    | str i => simp [copy, startE, copyR, isi_str', isi_int', isi_list', isi_tuple', isi_bool]
    | bool i => simp [copy, startE, copyR, isi_str', isi_int', isi_list', isi_tuple', isi_bool]
    | list h1 h2 =>
      simp [copy, startE, copyR, isi_str', isi_int', isi_list', isi_tuple', isi_bool]
      refine es _ h1 ⟨_, rfl, h2⟩ _ _ _ ?_
      simp [h1]
    | tup h1 h2 =>
      simp [copy, startE, copyR, isi_str', isi_int', isi_list', isi_tuple', isi_bool]
      refine es _ h1 ⟨_, rfl, h2⟩ _ _ _ ?_
      simp [h1, bi_tuple]
def same (x : Str) : MF := ⟨4, (.cons (.ife (.cmp .Is (.v 1) .kn) (.cons (.ret (.cmp .Is (.v 0) .kn)) .nil) .nil) (.cons (.ife (.bop false (.cons (.isi (.v 1) "bool") (.cons (.isi (.v 0) "bool") .nil))) (.cons (.ret (.bop true (.cons (.isi (.v 1) "bool") (.cons (.isi (.v 0) "bool") (.cons (.cmp .Eq (.v 0) (.v 1)) .nil))))) .nil) .nil) (.cons (.ife (.isi (.v 1) "str") (.cons (.ret (.bop true (.cons (.isi (.v 0) "str") (.cons (.cmp .Eq (.v 0) (.v 1)) .nil)))) .nil) .nil) (.cons (.ife (.isi (.v 1) "int") (.cons (.ret (.bop true (.cons (.isi (.v 0) "int") (.cons (.cmp .Eq (.v 0) (.v 1)) .nil)))) .nil) .nil) (.cons (.ife (.isi (.v 1) "tuple") (.cons (.ife (.not_ (.isi (.v 0) "tuple")) (.cons (.ret (.kb false)) .nil) .nil) .nil) (.cons (.ife (.not_ (.isi (.v 0) "list")) (.cons (.ret (.kb false)) .nil) .nil) .nil)) (.cons (.ife (.cmp .NotEq (.bi "len" (.cons (.v 0) .nil)) (.bi "len" (.cons (.v 1) .nil))) (.cons (.ret (.kb false)) .nil) .nil) (.cons (.ret (.bi "all" (.cons (.lc (.t [2, 3]) (.zip (.v 0) (.v 1)) .no (.call x (.cons (.v 2) (.cons (.v 3) .nil)))) .nil))) .nil)))))))⟩
theorem same_refl {Γ : FT} {x : Str} {fuel : Nat} : ∀ (k n : Nat) (d : D), Pd n d → n < k → recG Γ x 2 (same x) fuel k [d, d] = .ok (.fr false (.bool true)) := by
  intro k
  induction k with
  | zero => intro n d _ h; omega
  | succ k ih =>
    intro n d hd hk
    suffices h : RS (fun _ => False) (recG Γ x 2 (same x) fuel (k + 1) [d, d]) fun v => v = .fr false (.bool true) by
      obtain ⟨a, e, rfl⟩ := rs_eq h
      exact e
    refine rs_run ?_
    have es : ∀ ds : List D, (∃ m, n = m + 1 ∧ ∀ d ∈ ds, Pd m d) → ∀ (s0 s1 : Sl) (m0 : Bool) (K : Bool × List D → Prop), K (false, ds.map fun _ => .bool true) → RS (fun _ => False) (lcR (lcT (put Γ x 2 (recG Γ x 2 (same x) fuel k)) [s0, s1, .no, .no] (.t [2, 3]) .no (.call x (.cons (.v 2) (.cons (.v 3) .nil))) m0) (ds.map fun a => .tuple [a, a])) K := fun ds hds s0 s1 m0 K q => by
      obtain ⟨m, rfl, hds⟩ := hds
      refine rs_lc (fun i m L => m = false ∧ L = (ds.map fun _ => (.bool true : D)).take i) ⟨rfl, rfl⟩ (fun i d m1 L hd' h => ?_) fun m1 L h => ?_
      · obtain ⟨rfl, rfl⟩ := h
        obtain ⟨hi, rfl⟩ := map_at hd'
        have e := ih m ds[i] (hds _ (List.getElem_mem hi)) (by omega)
        simp [lcT, e_call (put_self (Γ := Γ) (x := x)), e]
        rw [take_get (l := ds.map fun _ => (.bool true : D)) (a := .bool true) (by rw [List.getElem?_map, List.getElem?_eq_getElem hi]; rfl)]
      · obtain ⟨rfl, rfl⟩ := h
        have e2 : (ds.map fun _ => (.bool true : D)).take (ds.map fun d => (.tuple [d, d] : D)).length = ds.map fun _ => .bool true := List.take_of_length_le (by simp)
        rwa [e2]
    have al : ∀ ds : List D, semBi "all" [.list (ds.map fun _ => (.bool true : D))] = some (false, .bool true) := fun ds => by
      have : allO isBl (ds.map fun _ => (.bool true : D)) = some (ds.map fun _ => true) := by
        induction ds with
        | nil => rfl
        | cons d ds ih => simp [allO, ih, isBl]
      have e : semBi "all" [.list (ds.map fun _ => (.bool true : D))] = s_all [.list (ds.map fun _ => (.bool true : D))] := by
        unfold semBi
        repeat rw [if_neg (by decide)]
        rw [if_pos rfl]
      rw [e]
      show (allO isBl _).map _ = _
      rw [this]
      simp
    cases hd with
    | none => simp [same, startE, isi_str', isi_int', isi_list', isi_tuple', isi_bool, isO]
    | int i => simp [same, startE, isi_str', isi_int', isi_list', isi_tuple', isi_bool, isO]
    | str i => simp [same, startE, isi_str', isi_int', isi_list', isi_tuple', isi_bool, isO]
    | bool i => simp [same, startE, isi_str', isi_int', isi_list', isi_tuple', isi_bool, isO]
    | list h1 h2 =>
      simp [same, startE, isi_str', isi_int', isi_list', isi_tuple', isi_bool, isO, zipR]
      refine es _ ⟨_, rfl, h2⟩ _ _ _ _ ?_
      simp [h1, al]
    | tup h1 h2 =>
      simp [same, startE, isi_str', isi_int', isi_list', isi_tuple', isi_bool, isO, zipR]
      refine es _ ⟨_, rfl, h2⟩ _ _ _ _ ?_
      simp [h1, al]
end M
end En

set_option Elab.async false
set_option linter.all false
set_option maxRecDepth 100000
set_option maxHeartbeats 4000000
namespace En
open PySem L2

/-! ### houses and nets -/
abbrev Gt := Tx × List Ru
abbrev Ho := List Gt × List Wy
abbrev Nh := Tx × Ho
abbrev Spt := Tx × Tx
abbrev Ln := Spt × Spt
abbrev Cm := Tx × Tx × Tx
def gt (g : Gt) : D := .tuple [tx g.1, .list (g.2.map rl)]
def ho (h : Ho) : D := .tuple [.list (h.1.map gt), .list (h.2.map wy)]
def nh (h : Nh) : D := .tuple [tx h.1, ho h.2]
def spt (s : Spt) : D := .tuple [tx s.1, tx s.2]
def ln (l : Ln) : D := .tuple [spt l.1, spt l.2]
def cm (c : Cm) : D := .tuple [tx c.1, tx c.2.1, tx c.2.2]
structure Nt where
  lay : List Fd
  hs : List Nh
  ls : List Ln
def nt (N : Nt) : D := .tuple [.list (N.lay.map fl), .list (N.hs.map nh), .list (N.ls.map ln)]
@[simp] theorem imm_gt (g : Gt) : imm (gt g) = false := by simp [gt]
@[simp] theorem imm_ho (g : Ho) : imm (ho g) = false := by simp [ho]
@[simp] theorem imm_nh (g : Nh) : imm (nh g) = false := by simp [nh]
@[simp] theorem imm_nt (g : Nt) : imm (nt g) = false := by simp [nt]
@[simp] theorem imm_spt (g : Spt) : imm (spt g) = true := by simp [spt]
@[simp] theorem imm_ln (g : Ln) : imm (ln g) = true := by simp [ln]
@[simp] theorem imm_cm (g : Cm) : imm (cm g) = true := by simp [cm]
@[simp] theorem mk_ho (m : Bool) (h : Ho) : mk m false (ho h) = .fr m (ho h) := mk_tup _ _
@[simp] theorem mk_nh (m : Bool) (h : Nh) : mk m false (nh h) = .fr m (nh h) := mk_tup _ _
@[simp] theorem mk_spt (m : Bool) (h : Spt) : mk m false (spt h) = .fr m (spt h) := mk_tup _ _
@[simp] theorem mk_cm (m : Bool) (h : Cm) : mk m false (cm h) = .fr m (cm h) := mk_tup _ _
@[simp] theorem ho_0 (h : Ho) : semIx (ho h) (.int 0) = some (.list (h.1.map gt)) := (rfl)
@[simp] theorem ho_1 (h : Ho) : semIx (ho h) (.int 1) = some (.list (h.2.map wy)) := (rfl)
@[simp] theorem nt_0 (N : Nt) : semIx (nt N) (.int 0) = some (.list (N.lay.map fl)) := (rfl)
@[simp] theorem nt_1 (N : Nt) : semIx (nt N) (.int 1) = some (.list (N.hs.map nh)) := (rfl)
@[simp] theorem nt_2 (N : Nt) : semIx (nt N) (.int 2) = some (.list (N.ls.map ln)) := (rfl)
@[simp] theorem spt_0 (N : Spt) : semIx (spt N) (.int 0) = some (tx N.1) := (rfl)
@[simp] theorem spt_1 (N : Spt) : semIx (spt N) (.int 1) = some (tx N.2) := (rfl)
@[simp] theorem cm_0 (N : Cm) : semIx (cm N) (.int 0) = some (tx N.1) := (rfl)
@[simp] theorem cm_1 (N : Cm) : semIx (cm N) (.int 1) = some (tx N.2.1) := (rfl)
@[simp] theorem cm_2 (N : Cm) : semIx (cm N) (.int 2) = some (tx N.2.2) := (rfl)
@[simp] theorem gt_0 (g : Gt) : semIx (gt g) (.int 0) = some (tx g.1) := (rfl)
@[simp] theorem gt_1 (g : Gt) : semIx (gt g) (.int 1) = some (.list (g.2.map rl)) := (rfl)
@[simp] theorem nh_0 (g : Nh) : semIx (nh g) (.int 0) = some (tx g.1) := (rfl)
@[simp] theorem nh_1 (g : Nh) : semIx (nh g) (.int 1) = some (ho g.2) := (rfl)
abbrev toT : Tx := [116, 111]
abbrev lostT : Tx := [108, 111, 115, 116]
abbrev sentT : Tx := [115, 101, 110, 116]
abbrev outT : Tx := [111, 117, 116]
abbrev ringT : Tx := [114, 105, 110, 103]
@[simp] theorem lit_to : (PyData.str (Str.ofString "to") : D) = tx toT := (rfl)
@[simp] theorem lit_lost : (PyData.str (Str.ofString "lost") : D) = tx lostT := (rfl)
@[simp] theorem lit_sent : (PyData.str (Str.ofString "sent") : D) = tx sentT := (rfl)
@[simp] theorem lit_out : (PyData.str (Str.ofString "out") : D) = tx outT := (rfl)
@[simp] theorem lit_ring : (PyData.str (Str.ofString "ring") : D) = tx ringT := (rfl)
/-- the first by a name -/
def look {α : Type} (l : List (Tx × α)) (x : Tx) : Option α := l.findSome? fun p => if p.1 = x then some p.2 else none
theorem look_mem {α : Type} {l : List (Tx × α)} {x : Tx} {a : α} (h : look l x = some a) : (x, a) ∈ l := by
  obtain ⟨p, hp, e⟩ := List.exists_of_findSome?_eq_some h
  split at e
  · rename_i e1
    cases e
    rw [← e1]
    exact hp
  · cases e
theorem look_of {α : Type} {l : List (Tx × α)} {x : Tx} (h : x ∈ l.map (·.1)) : ∃ a, look l x = some a := by
  cases e : look l x with
  | some a => exact ⟨a, rfl⟩
  | none =>
    obtain ⟨p, hp, rfl⟩ := List.mem_map.mp h
    have := List.findSome?_eq_none_iff.mp e p hp
    rw [if_pos rfl] at this
    cases this
theorem look_none {α : Type} {l : List (Tx × α)} {x : Tx} (h : x ∉ l.map (·.1)) : look l x = none := by
  refine List.findSome?_eq_none_iff.mpr fun p hp => if_neg fun e => h ?_
  rw [← e]
  exact List.mem_map_of_mem hp
theorem look_at {α : Type} {l : List (Tx × α)} {p : Tx × α} (hn : (l.map (·.1)).Nodup) (hp : p ∈ l) : look l p.1 = some p.2 := by
  induction l with
  | nil => cases hp
  | cons q l ih =>
    rw [List.map_cons, List.nodup_cons] at hn
    unfold look
    rw [List.findSome?_cons]
    rcases List.mem_cons.mp hp with rfl | hp
    · rw [if_pos rfl]
    · rw [if_neg fun e => hn.1 (by rw [e]; exact List.mem_map_of_mem hp)]
      exact ih hn.2 hp
/-- the other end of a line -/
def tied (ls : List Ln) (s : Spt) : Option Spt := ls.findSome? fun l => if l.1 = s then some l.2 else if l.2 = s then some l.1 else none
theorem tied_mem {ls : List Ln} {s t : Spt} (h : tied ls s = some t) : ∃ l ∈ ls, (l.1 = s ∧ l.2 = t) ∨ (l.2 = s ∧ l.1 = t) := by
  obtain ⟨l, hl, e⟩ := List.exists_of_findSome?_eq_some h
  refine ⟨l, hl, ?_⟩
  split at e
  · cases e
    exact .inl ⟨‹_›, rfl⟩
  · split at e
    · cases e
      exact .inr ⟨‹_›, rfl⟩
    · cases e
def optD : Option Tx → D
  | some x => tx x
  | none => .none
def sptD : Option Spt → D
  | some x => spt x
  | none => .none
/-- the longest beginning -/
def bstS (s : Tx) (b : Option Wy) (w : Wy) : Option Wy := if w.1 <+: s ∧ (b.all fun v => decide (v.1.length < w.1.length)) = true then some w else b
def bst (ws : List Wy) (s : Tx) : Option Wy := ws.foldl (bstS s) none
theorem bst_mem {s : Tx} : ∀ {ws : List Wy} {b : Option Wy} {v : Wy}, ws.foldl (bstS s) b = some v → v ∈ ws ∨ b = some v
  | [], b, v, h => .inr h
  | w :: ws, b, v, h => by
    rcases bst_mem (ws := ws) h with h | h
    · exact .inl (List.mem_cons_of_mem _ h)
    · unfold bstS at h
      split at h
      · cases h
        exact .inl List.mem_cons_self
      · exact .inr h
theorem bst_in {ws : List Wy} {s : Tx} {v : Wy} (h : bst ws s = some v) : v ∈ ws := (bst_mem h).elim id fun h => nomatch h
/-- the first place of a field, and the first behind it -/
def spanOf (x : Tx) : List Fd → Nat → Option (Nat × Nat)
  | [], _ => none
  | p :: ps, a => if p.1 = x then some (a, a + p.2) else spanOf x ps (a + p.2)
theorem span_le {x : Tx} : ∀ {ps : List Fd} {a f b : Nat}, spanOf x ps a = some (f, b) → a ≤ f ∧ f ≤ b ∧ b ≤ a + wid ps
  | [], _, _, _, h => nomatch h
  | p :: ps, a, f, b, h => by
    unfold spanOf at h
    have e : wid (p :: ps) = p.2 + wid ps := by simp [wid]
    split at h
    · cases h
      omega
    · have := span_le h
      omega
theorem span_of {x : Tx} : ∀ {ps : List Fd} {a : Nat}, x ∈ ps.map (·.1) → ∃ f b, spanOf x ps a = some (f, b)
  | [], _, h => nomatch h
  | p :: ps, a, h => by
    unfold spanOf
    split
    · exact ⟨_, _, rfl⟩
    · rename_i hne
      refine span_of ?_
      rcases List.mem_cons.mp h with h | h
      · exact absurd h.symm hne
      · exact h
theorem cut_mid {α : Type} {l : List α} {i j : Nat} (h : i ≤ j) : cutL l (some (i : Int)) (some (j : Int)) = (l.take j).drop i := by
  unfold cutL
  rw [HT.sIx_nat, HT.sIx_nat, List.drop_take]
  by_cases hi : i ≤ l.length
  · rw [Nat.min_eq_left hi]
    by_cases hj : j ≤ l.length
    · rw [Nat.min_eq_left hj]
    · rw [Nat.min_eq_right (by omega), List.take_of_length_le (by rw [List.length_drop]; omega), List.take_of_length_le (by rw [List.length_drop]; omega)]
  · have e1 : min i l.length = l.length := Nat.min_eq_right (by omega)
    rw [e1, List.drop_eq_nil_of_le (Nat.le_refl _), List.drop_eq_nil_of_le (as := l) (i := i) (by omega)]
    simp
def prt (sp : Nat × Nat) (l : Tx) : Tx := (l.take sp.2).drop sp.1
inductive Does where
  | drop (n : Nat)
  | lost
  | sent (o l : Tx)
def doesD : Does → D
  | .drop n => .tuple [tx dropT, .int (n : Int)]
  | .lost => .tuple [tx lostT]
  | .sent o l => .tuple [tx sentT, tx o, tx l]
@[simp] theorem imm_does (d : Does) : imm (doesD d) = true := by cases d <;> simp [doesD]
def goesO (sp : Nat × Nat) (ws : List Wy) (l : Tx) : Does := match bst ws (prt sp l) with
  | some v => .sent v.2 l
  | none => .lost
noncomputable def doesO (sp : Nat × Nat) (ws : List Wy) (rs : List Ru) (l : Tx) : Does := match rs[firstOf (fun r => Hold r.1 l) rs]? with
  | none => .drop (firstOf (fun r => Hold r.1 l) rs)
  | some r => if r.2.1 = dropT then .drop (firstOf (fun r => Hold r.1 l) rs) else goesO sp ws (wr l r.2.2)
/-! spots and comings, compared -/
theorem eqv_txs (A B : List Tx) : PyData.eqv (.tuple (A.map tx)) (.tuple (B.map tx)) = decide (A = B) := by
  rw [PyData.eqv, eqvAll_txs]
theorem eqv_spt (a b : Spt) : PyData.eqv (spt a) (spt b) = decide (a = b) := by
  refine (eqv_txs [a.1, a.2] [b.1, b.2]).trans ?_
  congr 1
  simp [Prod.ext_iff]
theorem eqv_cm (a b : Cm) : PyData.eqv (cm a) (cm b) = decide (a = b) := by
  refine (eqv_txs [a.1, a.2.1, a.2.2] [b.1, b.2.1, b.2.2]).trans ?_
  congr 1
  simp [Prod.ext_iff]
def SmS (s : Spt) : Prop := Sm s.1 ∧ Sm s.2
def SmC (s : Cm) : Prop := Sm s.1 ∧ Sm s.2.1 ∧ Sm s.2.2
theorem nc_spt {s : Spt} (h : SmS s) : Nc 1 (spt s) := nc_two (nc_sm h.1) (nc_sm h.2)
theorem nc_cm {s : Cm} (h : SmC s) : Nc 1 (cm s) := nc_tup (k := 0) fun d hd => by
  simp only [List.mem_cons, List.not_mem_nil, or_false] at hd
  rcases hd with rfl | rfl | rfl
  · exact nc_sm h.1
  · exact nc_sm h.2.1
  · exact nc_sm h.2.2
theorem eq_tups {l1 l2 : List D} (h1 : shp (.tuple l1) = true) (h2 : shp (.tuple l2) = true) : eqO (.tuple l1) (.tuple l2) = some (PyData.eqv (.tuple l1) (.tuple l2)) := by
  unfold eqO
  have e : scV (.tuple l1 : D) = none := rfl
  rw [e, h1, h2]
  rfl
theorem eq_spt {a b : Spt} (ha : SmS a) (hb : SmS b) : eqO (spt a) (spt b) = some (decide (a = b)) := by
  rw [← eqv_spt]
  exact eq_tups ((nc_spt ha).shp (by decide)) ((nc_spt hb).shp (by decide))
theorem eq_sptl {a : Spt} {x y : Tx} (ha : SmS a) (hb : SmS (x, y)) : eqO (spt a) (.tuple [tx x, tx y]) = some (decide (a = (x, y))) := eq_spt ha hb
namespace M
def doorRulesW (z : MS) : MF := ⟨4, (.cons (.for_ (.t [2, 3]) (.e (.ix (.v 0) (.ki 0))) (.cons (.ife (.cmp .Eq (.v 2) (.v 1)) (.cons (.ret (.v 3)) .nil) .nil) .nil)) (.cons z .nil))⟩
theorem doorRules_ok {Γ : FT} {n : Nat} {X : Str → Prop} {K : Rv → Prop} {z : MS} (h : Ho) (d : Tx) {rs : List Ru} (e : look h.1 d = some rs) (q : ∀ m, K (.fr m (.list (rs.map rl)))) : RS X (runF Γ n (doorRulesW z) [ho h, tx d]) K := by
  refine rs_run ?_
  simp [doorRulesW, startE]
  refine fs_find (fun e => ∃ s2 s3, e = [.fr true (ho h), .fr false (tx d), s2, s3]) (fun p : Gt => if p.1 = d then some p.2 else none) ⟨_, _, rfl⟩ (fun g v hg hS => ⟨fun hn => ?_, fun c hc hf => ?_⟩) (fun hn => by rw [show h.1.findSome? _ = some rs from e] at hn; cases hn)
  · obtain ⟨s2, s3, rfl⟩ := hS
    split at hn
    · cases hn
    · rename_i hne
      simp [gt, hne]
  · obtain ⟨s2, s3, rfl⟩ := hS
    split at hc
    · rename_i he
      cases hc
      rw [show h.1.findSome? _ = some rs from e] at hf
      cases hf
      simp [gt, he]
      exact q _
    · cases hc
def DoorRulesAt (Γ : FT) (z : MS) : Prop := ∃ Γ' n, Γ "door_rules" = some (2, fun ds => runF Γ' n (doorRulesW z) ds)
def houseNamedW (z : MS) : MF := ⟨4, (.cons (.for_ (.t [2, 3]) (.e (.ix (.v 0) (.ki 1))) (.cons (.ife (.cmp .Eq (.v 2) (.v 1)) (.cons (.ret (.v 3)) .nil) .nil) .nil)) (.cons z .nil))⟩
theorem houseNamed_ok {Γ : FT} {n : Nat} {X : Str → Prop} {K : Rv → Prop} {z : MS} (N : Nt) (x : Tx) {h : Ho} (e : look N.hs x = some h) (q : ∀ m, K (.fr m (ho h))) : RS X (runF Γ n (houseNamedW z) [nt N, tx x]) K := by
  refine rs_run ?_
  simp [houseNamedW, startE]
  refine fs_find (fun e => ∃ s2 s3, e = [.fr true (nt N), .fr false (tx x), s2, s3]) (fun p : Nh => if p.1 = x then some p.2 else none) ⟨_, _, rfl⟩ (fun g v hg hS => ⟨fun hn => ?_, fun c hc hf => ?_⟩) (fun hn => by rw [show N.hs.findSome? _ = some h from e] at hn; cases hn)
  · obtain ⟨s2, s3, rfl⟩ := hS
    split at hn
    · cases hn
    · rename_i hne
      simp [nh, hne]
  · obtain ⟨s2, s3, rfl⟩ := hS
    split at hc
    · rename_i he
      cases hc
      rw [show N.hs.findSome? _ = some h from e] at hf
      cases hf
      simp [nh, he]
      exact q _
    · cases hc
def HouseNamedAt (Γ : FT) (z : MS) : Prop := ∃ Γ' n, Γ "house_named" = some (2, fun ds => runF Γ' n (houseNamedW z) ds)
def netTied : MF := ⟨5, (.cons (.exp (.call "door_rules" (.cons (.call "house_named" (.cons (.v 0) (.cons (.v 1) .nil))) (.cons (.v 2) .nil)))) (.cons (.for_ (.t [3, 4]) (.e (.ix (.v 0) (.ki 2))) (.cons (.ife (.cmp .Eq (.v 3) (.tup (.cons (.v 1) (.cons (.v 2) .nil)))) (.cons (.ret (.v 4)) .nil) .nil) (.cons (.ife (.cmp .Eq (.v 4) (.tup (.cons (.v 1) (.cons (.v 2) .nil)))) (.cons (.ret (.v 3)) .nil) .nil) .nil))) (.cons (.ret .kn) .nil)))⟩
theorem netTied_ok {Γ : FT} {n : Nat} {X : Str → Prop} {K : Rv → Prop} {z1 z2 : MS} (hd : DoorRulesAt Γ z1) (hh : HouseNamedAt Γ z2) (N : Nt) (x d : Tx) {h : Ho} {rs : List Ru} (e1 : look N.hs x = some h) (e2 : look h.1 d = some rs) (hl : ∀ l ∈ N.ls, SmS l.1 ∧ SmS l.2) (hx : Sm x) (hd' : Sm d) (q : ∀ m, K (.fr m (sptD (tied N.ls (x, d))))) : RS X (runF Γ n netTied [nt N, tx x, tx d]) K := by
  obtain ⟨Γ1, n1, f1⟩ := hd
  obtain ⟨Γ2, n2, f2⟩ := hh
  refine rs_run ?_
  simp [netTied, startE, e_call f1, e_call f2]
  refine houseNamed_ok (Γ := Γ2) N x e1 fun m => ?_
  simp [e_call f1]
  refine doorRules_ok (Γ := Γ1) h d e2 fun m => ?_
  simp
  refine fs_find (fun e => ∃ s3 s4, e = [.fr true (nt N), .fr false (tx x), .fr false (tx d), s3, s4]) (fun l : Ln => if l.1 = (x, d) then some l.2 else if l.2 = (x, d) then some l.1 else none) ⟨_, _, rfl⟩ (fun l e hm hS => ?_) (fun hn e hS => ?_)
  · obtain ⟨s3, s4, rfl⟩ := hS
    obtain ⟨l1, l2⟩ := hl l hm
    have exy := eq_sptl (a := (x, d)) (x := x) (y := d) ⟨hx, hd'⟩ ⟨hx, hd'⟩
    refine ⟨fun hn => ?_, fun c hc hf => ?_⟩
    · split at hn
      · cases hn
      · split at hn
        · cases hn
        · rename_i g1 g2
          simp [ln, sz 2 (by decide), exy, eq_sptl l1 (show SmS (x, d) from ⟨hx, hd'⟩), eq_sptl l2 (show SmS (x, d) from ⟨hx, hd'⟩), g1, g2]
    · rw [show N.ls.findSome? _ = tied N.ls (x, d) from rfl] at hf
      rw [hf] at q
      split at hc
      · rename_i g1
        cases hc
        simp [ln, sz 2 (by decide), exy, eq_sptl l1 (show SmS (x, d) from ⟨hx, hd'⟩), g1]
        exact q _
      · split at hc
        · rename_i g1 g2
          cases hc
          simp [ln, sz 2 (by decide), exy, eq_sptl l1 (show SmS (x, d) from ⟨hx, hd'⟩), eq_sptl l2 (show SmS (x, d) from ⟨hx, hd'⟩), g1, g2]
          exact q _
        · cases hc
  · obtain ⟨s3, s4, rfl⟩ := hS
    rw [show N.ls.findSome? _ = tied N.ls (x, d) from rfl] at hn
    rw [hn] at q
    exact q _
def NetTiedAt (Γ : FT) (z1 z2 : MS) : Prop := ∃ Γ' n, DoorRulesAt Γ' z1 ∧ HouseNamedAt Γ' z2 ∧ Γ "net_tied" = some (3, fun ds => runF Γ' n netTied ds)
/-! spans -/
def fieldSpanW (z : MS) : MF := ⟨5, (.cons (.set 2 (.ki 0) false) (.cons (.for_ (.t [3, 4]) (.e (.v 0)) (.cons (.ife (.cmp .Eq (.v 3) (.v 1)) (.cons (.ret (.tup (.cons (.v 2) (.cons (.bin .Add (.v 2) (.v 4)) .nil)))) .nil) .nil) (.cons (.set 2 (.bin .Add (.v 2) (.v 4)) false) .nil))) (.cons z .nil)))⟩
theorem fieldSpanW_ok {Γ : FT} {n : Nat} {X : Str → Prop} {K : Rv → Prop} {z : MS} (ps : List Fd) (x : Tx) {f b : Nat} (e : spanOf x ps 0 = some (f, b)) (q : K (.fr false (.tuple [.int (f : Int), .int (b : Int)]))) : RS X (runF Γ n (fieldSpanW z) [.list (ps.map fl), tx x]) K := by
  refine rs_run ?_
  simp [fieldSpanW, startE]
  obtain ⟨I, hI⟩ : ∃ I : Nat → List Sl → Prop, ∀ i e, I i e = ∃ (s3 s4 : Sl) (a : Nat), e = [.fr true (.list (ps.map fl)), .fr false (tx x), .fr false (.int (a : Int)), s3, s4] ∧ spanOf x (ps.drop i) a = some (f, b) := ⟨_, fun _ _ => rfl⟩
  refine fs_for I ?_ (fun i d e hd h => ?_) (fun e h => ?_)
  · rw [hI]
    exact ⟨_, _, 0, rfl, e⟩
  · rw [hI] at h
    obtain ⟨s3, s4, a, rfl, he⟩ := h
    obtain ⟨hi, rfl⟩ := map_at hd
    rw [List.drop_eq_getElem_cons hi] at he
    unfold spanOf at he
    split at he
    · rename_i hx
      cases he
      simp [fl, hx, sz 2 (by decide)]
      simpa using q
    · rename_i hx
      simp [fl, hx, hI]
      exact ⟨_, _, a + ps[i].2, ⟨by omega, rfl, rfl⟩, he⟩
  · rw [hI] at h
    obtain ⟨s3, s4, a, rfl, he⟩ := h
    rw [List.length_map, List.drop_eq_nil_of_le (Nat.le_refl _)] at he
    cases he
def FieldSpanWAt (Γ : FT) (z : MS) : Prop := ∃ Γ' n, Γ "field_span" = some (2, fun ds => runF Γ' n (fieldSpanW z) ds)
theorem fieldPartW_ok {Γ : FT} {n : Nat} {X : Str → Prop} {K : Rv → Prop} {z : MS} (hf : FieldSpanWAt Γ z) (ps : List Fd) (x r : Tx) {sp : Nat × Nat} (e : spanOf x ps 0 = some sp) (hr : r.length ≤ 1000) (q : K (.fr false (tx (prt sp r)))) : RS X (runF Γ n fieldPart [.list (ps.map fl), tx x, tx r]) K := by
  obtain ⟨Γ1, n1, e1⟩ := hf
  obtain ⟨f, b⟩ := sp
  have le := span_le e
  refine rs_run ?_
  simp [fieldPart, startE, e_call e1]
  refine fieldSpanW_ok (Γ := Γ1) ps x e ?_
  simp [sl_tx (l := r) (sz _ (by omega)), cut_mid (l := r) le.2.1]
  exact q
def FieldPartAt (Γ : FT) : Prop := ∃ Γ' n z, FieldSpanWAt Γ' z ∧ Γ "field_part" = some (3, fun ds => runF Γ' n fieldPart ds)
/-- the door of the longest beginning -/
theorem wayFound_bst {Γ : FT} {n : Nat} {X : Str → Prop} {K : Rv → Prop} (ws : List Wy) (s : Tx) (hs : ∀ v ∈ ws, v.1.length ≤ 1000) (q : ∀ m, K (.fr m (optD ((bst ws s).map (·.2))))) : RS X (runF Γ n wayFound [.list (ws.map wy), tx s]) K := by
  refine rs_run ?_
  simp [wayFound, startE]
  obtain ⟨I, hI⟩ : ∃ I : Nat → List Sl → Prop, ∀ i e, I i e = ∃ (m : Bool) (d : D) (z : Int) (s4 s5 : Sl), e = [.fr true (.list (ws.map wy)), .fr false (tx s), .fr m d, .fr false (.int z), s4, s5] ∧ d = optD ((bst (ws.take i) s).map (·.2)) ∧ z = (match bst (ws.take i) s with | some v => (v.1.length : Int) | none => -1) := ⟨_, fun _ _ => rfl⟩
  refine fs_for I ?_ (fun i d e hd h => ?_) (fun e h => ?_)
  · rw [hI]
    exact ⟨_, _, _, _, _, rfl, rfl, rfl⟩
  · rw [hI] at h
    obtain ⟨m, d, z, s4, s5, rfl, rfl, rfl⟩ := h
    obtain ⟨hi, rfl⟩ := map_at hd
    have g := take_get (List.getElem?_eq_getElem hi)
    have hv := hs _ (List.getElem_mem hi)
    have hb : bst (ws.take (i + 1)) s = bstS s (bst (ws.take i) s) ws[i] := by rw [g]; unfold bst; rw [List.foldl_append]; rfl
    generalize bst (ws.take i) s = b at *
    generalize ws[i] = v at *
    obtain ⟨v1, v2⟩ := v
    have hv : v1.length ≤ 1000 := hv
    simp [wy, starts_tx, len_tx (l := v1) (sz _ (by omega))]
    cases b with
    | none =>
      have hb : bst (ws.take (i + 1)) s = if v1 <+: s then some (v1, v2) else none := by rw [hb]; simp [bstS]
      dsimp only
      refine ⟨fun hp _ => ?_, fun hp => ?_⟩
      · rw [hI, hb, if_pos hp]
        exact ⟨_, _, _, _, _, rfl, rfl, rfl⟩
      · have hn : ¬ v1 <+: s := fun h => by have := hp h; omega
        rw [hI, hb, if_neg hn]
        exact ⟨_, _, _, _, _, rfl, rfl, rfl⟩
    | some u =>
      have hb : bst (ws.take (i + 1)) s = if v1 <+: s ∧ u.1.length < v1.length then some (v1, v2) else some u := by rw [hb]; simp [bstS]
      dsimp only
      refine ⟨fun hp hl => ?_, fun hp => ?_⟩
      · rw [hI, hb, if_pos ⟨hp, by omega⟩]
        exact ⟨_, _, _, _, _, rfl, rfl, rfl⟩
      · have hn : ¬ (v1 <+: s ∧ u.1.length < v1.length) := fun ⟨h, h2⟩ => by have := hp h; omega
        rw [hI, hb, if_neg hn]
        exact ⟨_, _, _, _, _, rfl, rfl, rfl⟩
  · rw [hI] at h
    obtain ⟨m, d, z, s4, s5, rfl, rfl, rfl⟩ := h
    rw [List.take_of_length_le (by simp)]
    simp
    exact q _
/-- what a house does -/
def houseDoes : MF := ⟨8, (.cons (.set 4 (.call "door_rules" (.cons (.v 1) (.cons (.v 2) .nil))) false) (.cons (.unp [5, 6] (.call "rule_deed" (.cons (.v 4) (.cons (.v 3) .nil)))) (.cons (.ife (.cmp .Eq (.v 5) (.ks "drop")) (.cons (.ret (.tup (.cons (.ks "drop") (.cons (.call "rule_first" (.cons (.v 4) (.cons (.v 3) .nil))) .nil)))) .nil) .nil) (.cons (.set 7 (.call "way_found" (.cons (.ix (.v 1) (.ki 1)) (.cons (.call "field_part" (.cons (.v 0) (.cons (.ks "to") (.cons (.v 6) .nil)))) .nil))) false) (.cons (.ife (.cmp .Is (.v 7) .kn) (.cons (.ret (.tup (.cons (.ks "lost") .nil))) .nil) .nil) (.cons (.ret (.tup (.cons (.ks "sent") (.cons (.v 7) (.cons (.v 6) .nil))))) .nil))))))⟩
theorem houseDoes_ok {Γ : FT} {n : Nat} {X : Str → Prop} {K : Rv → Prop} {z : MS} (hd : DoorRulesAt Γ z) (hr : ∃ Γ' n, RuleFirstAt Γ' ∧ WrittenAt Γ' ∧ Γ "rule_deed" = some (2, fun ds => runF Γ' n ruleDeed ds)) (hf : RuleFirstAt Γ) (hw : WayFoundAt Γ) (hp : FieldPartAt Γ) (ps : List Fd) (h : Ho) (d l : Tx) {sp : Nat × Nat} {rs : List Ru} (e0 : spanOf toT ps 0 = some sp) (e1 : look h.1 d = some rs) (hl : l.length ≤ 1000) (hw2 : ∀ v ∈ h.2, v.1.length ≤ 1000) (q : K (.fr false (doesD (doesO sp h.2 rs l)))) : RS X (runF Γ n houseDoes [.list (ps.map fl), ho h, tx d, tx l]) K := by
  obtain ⟨Γ1, n1, f1⟩ := hd
  obtain ⟨Γ2, n2, g2, g3, f2⟩ := hr
  obtain ⟨Γ4, n4, g4, f4⟩ := hf
  obtain ⟨Γ5, n5, f5⟩ := hw
  obtain ⟨Γ6, n6, z6, g6, f6⟩ := hp
  refine rs_run ?_
  simp [houseDoes, startE, e_call f1, e_call f2, e_call f4, e_call f5, e_call f6]
  refine doorRules_ok (Γ := Γ1) h d e1 fun m => ?_
  simp [e_call f2]
  refine ruleDeed_ok (Γ := Γ2) g2 g3 rs l hl ?_
  have hle := first_le (fun r => Hold r.1 l) rs
  unfold doesO at q
  by_cases hk : firstOf (fun r => Hold r.1 l) rs < rs.length
  · rw [List.getElem?_eq_getElem hk] at q
    dsimp only at q
    rw [deed_some hk]
    by_cases hdr : rs[firstOf (fun r => Hold r.1 l) rs].2.1 = dropT
    · rw [if_pos hdr] at q ⊢
      simp [dropD, e_call f4]
      refine ruleFirst_ok (Γ := Γ4) g4 rs l fun mm => ?_
      simp [sz 2 (by decide)]
      exact q
    · rw [if_neg hdr] at q ⊢
      generalize rs[firstOf (fun r => Hold r.1 l) rs].2.2 = o at *
      have wl : (wr l o).length ≤ 1000 := by
        unfold wr
        rw [List.length_zipWith]
        omega
      simp [e_call f6]
      refine fieldPartW_ok (Γ := Γ6) g6 ps toT (wr l o) e0 wl ?_
      simp [e_call f5]
      refine wayFound_bst (Γ := Γ5) h.2 _ hw2 fun m => ?_
      unfold goesO at q
      cases hb : bst h.2 (prt sp (wr l o)) with
      | none =>
        rw [hb] at q
        simp [optD, isO, sz 1 (by decide)]
        exact q
      | some v =>
        rw [hb] at q
        simp [optD, isO, sz 3 (by decide), tx]
        exact q
  · have hk : firstOf (fun r => Hold r.1 l) rs = rs.length := by omega
    rw [List.getElem?_eq_none (by omega)] at q
    rw [deed_none hk]
    simp [dropD, e_call f4]
    refine ruleFirst_ok (Γ := Γ4) g4 rs l fun mm => ?_
    simp [sz 2 (by decide)]
    exact q
end M
end En

set_option Elab.async false
set_option linter.all false
set_option maxRecDepth 100000
set_option maxHeartbeats 4000000
namespace En
open PySem L2

/-! ### the least of some texts -/
def minT : List Tx → Tx
  | [] => []
  | x :: l => match PySem.W.minD (tx x) (l.map tx) with
    | .str s => s.cps.toList
    | _ => []
theorem minT_spec (x : Tx) (l : List Tx) : PySem.W.minD (tx x) (l.map tx) = tx (minT (x :: l)) ∧ minT (x :: l) ∈ x :: l := by
  obtain ⟨y, hy, e⟩ : ∃ y, y ∈ x :: l ∧ PySem.W.minD (tx x) (l.map tx) = tx y := by
    have h := minD_mem (l.map tx) (tx x)
    rw [← List.map_cons] at h
    obtain ⟨y, hy, e⟩ := List.mem_map.mp h
    exact ⟨y, hy, e.symm⟩
  have : minT (x :: l) = y := by
    show (match PySem.W.minD (tx x) (l.map tx) with | .str s => s.cps.toList | _ => []) = y
    rw [e]
    rfl
  rw [this]
  exact ⟨e, hy⟩
theorem alk_txs (l : List Tx) : alk (l.map tx) = true := by
  unfold alk
  rw [List.all_eq_true]
  intro x hx
  rw [List.all_eq_true]
  intro y hy
  obtain ⟨a, _, rfl⟩ := List.mem_map.mp hx
  obtain ⟨b, _, rfl⟩ := List.mem_map.mp hy
  rfl
theorem noN_txs (l : List Tx) : noN (l.map tx) = true := by
  unfold noN
  rw [List.all_eq_true]
  intro x hx
  obtain ⟨a, _, rfl⟩ := List.mem_map.mp hx
  rfl
theorem sc_txs (l : List Tx) : (l.map tx).all sc = true := by
  rw [List.all_eq_true]
  intro x hx
  obtain ⟨a, _, rfl⟩ := List.mem_map.mp hx
  rfl
theorem bi_minT {l : List Tx} (h : l ≠ []) : semBi "min" [.list (l.map tx)] = some (false, tx (minT l)) := by
  have e0 : semBi "min" [.list (l.map tx)] = s_min [.list (l.map tx)] := by
    unfold semBi
    repeat rw [if_neg (by decide)]
    rw [if_pos rfl]
  rw [e0]
  cases l with
  | nil => exact absurd rfl h
  | cons x l =>
    have e1 : allO isInt ((x :: l).map tx) = none := rfl
    have a := alk_txs (x :: l)
    have b := noN_txs (x :: l)
    have c := sc_txs (x :: l)
    unfold s_min
    dsimp only
    rw [e1]
    rw [List.map_cons] at a b c ⊢
    dsimp only
    rw [a, b, c, (minT_spec x l).1]
    rfl
/-! ### the ends of walks -/
inductive Fin2 where
  | drop (h d : Tx) (n : Nat)
  | lost (h d : Tx)
  | out (h d l : Tx)
  | ring (h : Tx)
def finD : Fin2 → D
  | .drop h d n => .tuple [tx dropT, tx h, tx d, .int (n : Int)]
  | .lost h d => .tuple [tx lostT, tx h, tx d]
  | .out h d l => .tuple [tx outT, tx h, tx d, tx l]
  | .ring h => .tuple [tx ringT, tx h]
@[simp] theorem imm_fin (d : Fin2) : imm (finD d) = true := by cases d <;> simp [finD]
inductive Stp where
  | fin (e : Fin2)
  | go (c : Cm)
noncomputable def stepN (sp : Nat × Nat) (N : Nt) (c : Cm) : Option Stp := match look N.hs c.1 with
  | none => none
  | some h => match look h.1 c.2.1 with
    | none => none
    | some rs => match doesO sp h.2 rs c.2.2 with
      | .drop n => some (.fin (.drop c.1 c.2.1 n))
      | .lost => some (.fin (.lost c.1 c.2.1))
      | .sent o l => match tied N.ls (c.1, o) with
        | none => some (.fin (.out c.1 o l))
        | some t => some (.go (t.1, t.2, l))
noncomputable def walkN (sp : Nat × Nat) (N : Nt) : Nat → List Cm → Cm → Option (List Cm × Fin2)
  | 0, _, _ => none
  | k + 1, t, c => if c ∈ t then some (t, .ring (minT ((t.drop (t.idxOf c)).map (·.1)))) else match stepN sp N c with
    | none => none
    | some (.fin e) => some (t ++ [c], e)
    | some (.go c') => walkN sp N k (t ++ [c]) c'
def walkD (r : List Cm × Fin2) : D := .tuple [.list (r.1.map cm), finD r.2]
/-! ### what is kept -/
def SpIn (N : Nt) (s : Spt) : Prop := ∃ h, look N.hs s.1 = some h ∧ s.2 ∈ h.1.map (·.1)
structure HoOk (w b : Nat) (h : Ho) : Prop where
  doors : (h.1.map (·.1)).Nodup
  few : h.1.length ≤ 1000 ∧ h.2.length ≤ 1000
  gate : ∀ g ∈ h.1, Sm g.1 ∧ g.2.length ≤ 1000 ∧ ∀ r ∈ g.2, RuOk w r
  begs : (h.2.map (·.1)).Nodup
  way : ∀ v ∈ h.2, Ltr v.1.length v.1 ∧ v.1.length ≤ b ∧ v.2 ∈ h.1.map (·.1)
structure NtOk (N : Nt) (sp : Nat × Nat) (w : Nat) : Prop where
  span : spanOf toT N.lay 0 = some sp
  wide : wid N.lay = w ∧ w ≤ 900
  lay : N.lay.length ≤ 1000 ∧ ∀ p ∈ N.lay, Sm p.1
  names : (N.hs.map (·.1)).Nodup
  few : N.hs.length ≤ 1000 ∧ N.ls.length ≤ 1000
  house : ∀ h ∈ N.hs, Sm h.1 ∧ HoOk w (sp.2 - sp.1) h.2
  line : ∀ l ∈ N.ls, SpIn N l.1 ∧ SpIn N l.2
def CmOk (N : Nt) (w : Nat) (c : Cm) : Prop := SpIn N (c.1, c.2.1) ∧ Ltr w c.2.2
section
variable {N : Nt} {sp : Nat × Nat} {w : Nat}
theorem SpIn.sm (hN : NtOk N sp w) {s : Spt} (h : SpIn N s) : SmS s := by
  obtain ⟨h, e, hd⟩ := h
  obtain ⟨a, b⟩ := hN.house _ (look_mem e)
  obtain ⟨g, hg, e2⟩ := List.mem_map.mp hd
  exact ⟨a, by rw [← e2]; exact (b.gate g hg).1⟩
theorem CmOk.sm (hN : NtOk N sp w) {c : Cm} (h : CmOk N w c) : SmC c := ⟨(h.1.sm hN).1, (h.1.sm hN).2, ltr_sm h.2⟩
theorem NtOk.lsm (hN : NtOk N sp w) : ∀ l ∈ N.ls, SmS l.1 ∧ SmS l.2 := fun l hl => ⟨(hN.line l hl).1.sm hN, (hN.line l hl).2.sm hN⟩
theorem tied_in (hN : NtOk N sp w) {s t : Spt} (h : tied N.ls s = some t) : SpIn N t := by
  obtain ⟨l, hl, ⟨_, rfl⟩ | ⟨_, rfl⟩⟩ := tied_mem h
  · exact (hN.line l hl).2
  · exact (hN.line l hl).1
theorem wr_ltr {l o : Tx} (hl : Ltr w l) (ho : Row w o) : Ltr w (wr l o) := by
  refine ⟨by unfold wr; rw [List.length_zipWith, hl.1, ho.1, Nat.min_self], fun c hc => ?_⟩
  unfold wr at hc
  obtain ⟨i, hi, rfl⟩ := List.getElem_of_mem hc
  rw [List.getElem_zipWith]
  rw [List.length_zipWith] at hi
  split
  · exact hl.2 _ (List.getElem_mem _)
  · rename_i hne
    rcases ho.2 o[i] (List.getElem_mem _) with h | h | h
    · exact .inl h
    · exact .inr h
    · exact absurd h hne
/-- off some places two letters are alike -/
def Off (T : List Nat) (l l' : Tx) : Prop := ∀ i, i ∉ T → l'[i]? = l[i]?
def Tells (N : Nt) (T : List Nat) : Prop := ∀ h ∈ N.hs, ∀ g ∈ h.2.1, ∀ r ∈ g.2, ∀ i x : Nat, r.2.2[i]? = some x → x ≠ 45 → i ∈ T
theorem wr_off {T : List Nat} {l o : Tx} (hl : Ltr w l) (ho : Row w o) (h : ∀ i x : Nat, o[i]? = some x → x ≠ 45 → i ∈ T) : Off T l (wr l o) := fun i hi => by
  unfold wr
  rw [List.getElem?_zipWith]
  cases e1 : l[i]? with
  | none => rfl
  | some a =>
    cases e2 : o[i]? with
    | none =>
      rw [List.getElem?_eq_none_iff] at e2
      rw [List.getElem?_eq_some_iff] at e1
      obtain ⟨h1, _⟩ := e1
      rw [hl.1] at h1
      rw [ho.1] at e2
      omega
    | some x =>
      by_cases hx : x = 45
      · simp [hx]
      · exact absurd (h i x e2 hx) hi
theorem step_ok (hN : NtOk N sp w) {c : Cm} (h : CmOk N w c) : ∃ hh rs, look N.hs c.1 = some hh ∧ look hh.1 c.2.1 = some rs ∧ (∀ o l, doesO sp hh.2 rs c.2.2 = .sent o l → SpIn N (c.1, o) ∧ Ltr w l ∧ ∀ T, Tells N T → Off T c.2.2 l) := by
  obtain ⟨⟨hh, e1, hd⟩, hl⟩ := h
  obtain ⟨rs, e2⟩ := look_of hd
  refine ⟨hh, rs, e1, e2, fun o l e => ?_⟩
  have ok := (hN.house _ (look_mem e1)).2
  unfold doesO at e
  split at e
  · cases e
  · rename_i r er
    have hr := (ok.gate _ (look_mem e2)).2.2 r (List.mem_of_getElem? er)
    split at e
    · cases e
    · unfold goesO at e
      split at e
      · rename_i v hv
        cases e
        exact ⟨⟨hh, e1, (ok.way v (bst_in hv)).2.2⟩, wr_ltr hl hr.2.1, fun T hT => wr_off hl hr.2.1 (hT _ (look_mem e1) _ (look_mem e2) r (List.mem_of_getElem? er))⟩
      · cases e
theorem step_go (hN : NtOk N sp w) {c c' : Cm} (h : CmOk N w c) (e : stepN sp N c = some (.go c')) : CmOk N w c' ∧ ∀ T, Tells N T → Off T c.2.2 c'.2.2 := by
  obtain ⟨hh, rs, e1, e2, f⟩ := step_ok hN h
  unfold stepN at e
  rw [e1] at e
  dsimp only at e
  rw [e2] at e
  dsimp only at e
  cases ed : doesO sp hh.2 rs c.2.2 with
  | drop n => rw [ed] at e; cases e
  | lost => rw [ed] at e; cases e
  | sent o l =>
    rw [ed] at e
    dsimp only at e
    obtain ⟨_, g2, g3⟩ := f o l ed
    cases et : tied N.ls (c.1, o) with
    | none => rw [et] at e; cases e
    | some t =>
      rw [et] at e
      cases e
      exact ⟨⟨tied_in hN et, g2⟩, g3⟩
theorem step_ex (hN : NtOk N sp w) {c : Cm} (h : CmOk N w c) : ∃ x, stepN sp N c = some x := by
  obtain ⟨hh, rs, e1, e2, f⟩ := step_ok hN h
  unfold stepN
  rw [e1]
  dsimp only
  rw [e2]
  dsimp only
  cases ed : doesO sp hh.2 rs c.2.2 with
  | drop n => exact ⟨_, rfl⟩
  | lost => exact ⟨_, rfl⟩
  | sent o l =>
    dsimp only
    cases et : tied N.ls (c.1, o) with
    | none => exact ⟨_, rfl⟩
    | some t => exact ⟨_, rfl⟩
/-! ### a walk ends -/
def varL : List Nat → Tx → List Tx
  | [], l => [l]
  | p :: T, l => varL T (l.set p 48) ++ varL T (l.set p 49)
theorem varL_len : ∀ (T : List Nat) (l : Tx), (varL T l).length = 2 ^ T.length
  | [], l => rfl
  | p :: T, l => by
    rw [varL, List.length_append, varL_len, varL_len, List.length_cons, Nat.pow_succ]
    omega
theorem varL_mem : ∀ (T : List Nat) {l l' : Tx}, Ltr w l → Ltr w l' → Off T l l' → l' ∈ varL T l
  | [], l, l', h1, h2, h => by
    rw [varL, List.mem_singleton]
    exact List.ext_getElem? fun i => h i (by simp)
  | p :: T, l, l', h1, h2, h => by
    rw [varL, List.mem_append]
    have key : ∀ s, Bt s → l'[p]? = some s → l' ∈ varL T (l.set p s) := fun s hs e => by
      have hp : p < l.length := by
        obtain ⟨hp, _⟩ := List.getElem?_eq_some_iff.mp e
        rw [h2.1] at hp
        rw [h1.1]
        exact hp
      refine varL_mem T ⟨by rw [List.length_set, h1.1], fun c hc => ?_⟩ h2 fun i hi => ?_
      · rcases List.mem_or_eq_of_mem_set hc with hc | hc
        · exact h1.2 c hc
        · rw [hc]; exact hs
      · by_cases hip : p = i
        · subst hip
          rw [List.getElem?_set_self hp, e]
        · rw [List.getElem?_set_ne hip]
          exact h i (by simp; exact ⟨fun z => hip z.symm, hi⟩)
    by_cases hp : p < l'.length
    · have e := List.getElem?_eq_getElem hp
      rcases h2.2 _ (List.getElem_mem hp) with z | z
      · exact .inl (key 48 (.inl rfl) (by rw [e, z]))
      · exact .inr (key 49 (.inr rfl) (by rw [e, z]))
    · have hpl : l.length ≤ p := by
        rw [h2.1] at hp
        rw [h1.1]
        omega
      rw [List.set_eq_of_length_le hpl]
      refine .inl (varL_mem T h1 h2 fun i hi => ?_)
      by_cases hip : i = p
      · subst hip
        rw [List.getElem?_eq_none (by omega), List.getElem?_eq_none hpl]
      · exact h i (by simp; exact ⟨hip, hi⟩)
def spotsL (N : Nt) : List Spt := N.hs.flatMap fun h => h.2.1.map fun g => (h.1, g.1)
theorem spots_in {s : Spt} (h : SpIn N s) : s ∈ spotsL N := by
  obtain ⟨hh, e, hd⟩ := h
  obtain ⟨g, hg, e2⟩ := List.mem_map.mp hd
  refine List.mem_flatMap.mpr ⟨_, look_mem e, List.mem_map.mpr ⟨g, hg, ?_⟩⟩
  rw [e2]
def comingsL (N : Nt) (T : List Nat) (l : Tx) : List Cm := (spotsL N).flatMap fun s => (varL T l).map fun l => (s.1, s.2, l)
theorem comings_len (N : Nt) (T : List Nat) (l : Tx) : (comingsL N T l).length = (spotsL N).length * 2 ^ T.length := by
  unfold comingsL
  generalize spotsL N = S
  induction S with
  | nil => simp
  | cons s S ih =>
    rw [List.flatMap_cons, List.length_append, ih, List.length_map, varL_len, List.length_cons, Nat.add_mul]
    omega
theorem comings_in {T : List Nat} {l : Tx} {c : Cm} (hl : Ltr w l) (h : CmOk N w c) (ho : Off T l c.2.2) : c ∈ comingsL N T l := List.mem_flatMap.mpr ⟨(c.1, c.2.1), spots_in h.1, List.mem_map.mpr ⟨c.2.2, varL_mem T hl h.2 ho, rfl⟩⟩
theorem nodup_few {α : Type} [DecidableEq α] : ∀ {t L : List α}, t.Nodup → (∀ a ∈ t, a ∈ L) → t.length ≤ L.length
  | [], _, _, _ => Nat.zero_le _
  | a :: t, L, hn, h => by
    rw [List.nodup_cons] at hn
    have h1 := nodup_few (L := L.erase a) hn.2 fun b hb => (List.mem_erase_of_ne fun e => hn.1 (by rw [← e]; exact hb)).mpr (h b (List.mem_cons_of_mem _ hb))
    rw [List.length_erase_of_mem (h a List.mem_cons_self)] at h1
    have := List.length_pos_of_mem (h a List.mem_cons_self)
    rw [List.length_cons]
    omega
theorem walk_ex (hN : NtOk N sp w) {T : List Nat} (hT : Tells N T) {l : Tx} (hl : Ltr w l) : ∀ (k : Nat) (t : List Cm) (c : Cm), t.Nodup → (∀ a ∈ t, a ∈ comingsL N T l) → CmOk N w c → Off T l c.2.2 → (comingsL N T l).length < t.length + k → ∃ r, walkN sp N k t c = some r := by
  intro k
  induction k with
  | zero => intro t c hn hm _ _ hk; have := nodup_few hn hm; omega
  | succ k ih =>
    intro t c hn hm hc ho hk
    unfold walkN
    split
    · exact ⟨_, rfl⟩
    · rename_i hct
      obtain ⟨x, ex⟩ := step_ex hN hc
      rw [ex]
      cases x with
      | fin e => exact ⟨_, rfl⟩
      | go c' =>
        obtain ⟨h1, h2⟩ := step_go hN hc ex
        refine ih _ _ (M.nd_app hn hct) (fun a ha => ?_) h1 (fun i hi => (h2 T hT i hi).trans (ho i hi)) (by rw [List.length_append, List.length_singleton]; omega)
        rcases List.mem_append.mp ha with ha | ha
        · exact hm a ha
        · rw [List.mem_singleton.mp ha]
          exact comings_in hl hc ho
theorem walk_few (hN : NtOk N sp w) {T : List Nat} (hT : Tells N T) {c : Cm} (hc : CmOk N w c) (hk : (spotsL N).length * 2 ^ T.length ≤ 90000) : ∃ r, walkN sp N 90001 [] c = some r := walk_ex hN hT hc.2 90001 [] c .nil (fun a h => nomatch h) hc (fun i _ => rfl) (by rw [comings_len]; simp; omega)
/-- all of a trail can come, and each but once -/
theorem walk_trail (hN : NtOk N sp w) : ∀ (k : Nat) {t : List Cm} {c : Cm} {r : List Cm × Fin2}, CmOk N w c → (∀ a ∈ t, CmOk N w a) → t.Nodup → walkN sp N k t c = some r → (∀ a ∈ r.1, CmOk N w a) ∧ r.1.Nodup ∧ r.1.length ≤ t.length + k
  | 0, t, c, r, _, _, _, h => nomatch h
  | k + 1, t, c, r, hc, ht, hn, h => by
    unfold walkN at h
    split at h
    · cases h
      exact ⟨ht, hn, Nat.le_add_right _ _⟩
    · rename_i hct
      have h2 : ∀ a ∈ t ++ [c], CmOk N w a := fun a ha => by
        rcases List.mem_append.mp ha with ha | ha
        · exact ht a ha
        · rw [List.mem_singleton.mp ha]; exact hc
      split at h
      · cases h
      · cases h
        exact ⟨h2, M.nd_app hn hct, by simp⟩
      · rename_i c' ex
        have := walk_trail hN k (step_go hN hc ex).1 h2 (M.nd_app hn hct) h
        refine ⟨this.1, this.2.1, ?_⟩
        have := this.2.2
        rw [List.length_append, List.length_singleton] at this
        omega
end
/-! ### the dict of what was seen -/
def keyC (c : Cm) : List Key := [.inr ⟨c.1.toArray⟩, .inr ⟨c.2.1.toArray⟩, .inr ⟨c.2.2.toArray⟩]
theorem keyC_inj {a b : Cm} : keyC a = keyC b ↔ a = b := by
  constructor
  · intro h
    simp only [keyC, List.cons.injEq, and_true, Sum.inr.injEq, Str.mk.injEq] at h
    obtain ⟨h1, h2, h3⟩ := h
    refine Prod.ext ?_ (Prod.ext ?_ ?_)
    · simpa using h1
    · simpa using h2
    · simpa using h3
  · intro h; rw [h]
theorem keysO_cm (c : Cm) : keysO [tx c.1, tx c.2.1, tx c.2.2] = some (keyC c) := rfl
def seenD (t : List Cm) : List (D × D) := (.none, .none) :: t.zipIdx.map fun p => (cm p.1, .int (p.2 : Int))
theorem seen_app (t : List Cm) (c : Cm) : seenD (t ++ [c]) = seenD t ++ [(cm c, .int (t.length : Int))] := by
  unfold seenD
  rw [List.zipIdx_append, List.map_append, List.cons_append]
  congr 2
  simp
theorem seen_has (t : List Cm) (c : Cm) : hasT (seenD t) (keyC c) = decide (c ∈ t) := by
  unfold hasT seenD
  rw [List.any_cons]
  have e0 : decide (tupO ((.none : D), (.none : D)).1 = some (keyC c)) = false := decide_eq_false fun h => nomatch h
  rw [e0, Bool.false_or, Bool.eq_iff_iff, List.any_eq_true, decide_eq_true_iff]
  constructor
  · rintro ⟨e, he, h⟩
    obtain ⟨p, hp, rfl⟩ := List.mem_map.mp he
    have h := of_decide_eq_true h
    rw [show tupO (cm p.1) = some (keyC p.1) from rfl] at h
    rw [← keyC_inj.mp (Option.some.inj h)]
    exact (List.mem_zipIdx' hp).2 ▸ List.getElem_mem _
  · intro h
    obtain ⟨i, hi, rfl⟩ := List.getElem_of_mem h
    refine ⟨_, List.mem_map.mpr ⟨(t[i], i), ?_, rfl⟩, decide_eq_true rfl⟩
    rw [List.mem_iff_getElem?]
    exact ⟨i, by simp⟩
theorem zip_get {c : Cm} : ∀ {t : List Cm} {k : Nat}, c ∈ t → getT ((t.zipIdx k).map fun p => (cm p.1, .int (p.2 : Int))) (keyC c) = some (.int ((k + t.idxOf c : Nat) : Int))
  | a :: t, k, h => by
    rw [List.zipIdx_cons, List.map_cons, getT, List.idxOf_cons]
    by_cases e : a = c
    · subst e
      rw [if_pos (show tupO (cm a) = some (keyC a) from rfl)]
      simp
    · rw [if_neg (show ¬ tupO (cm a) = some (keyC c) from fun z => e (keyC_inj.mp (Option.some.inj z))), zip_get ((List.mem_cons.mp h).resolve_left fun z => e z.symm)]
      have : (a == c) = false := by simpa using e
      rw [this]
      simp
      omega
theorem seen_get {t : List Cm} {c : Cm} (h : c ∈ t) : getT (seenD t) (keyC c) = some (.int (t.idxOf c : Int)) := by
  unfold seenD
  rw [getT, if_neg (fun z => nomatch z), zip_get h]
  simp
theorem seen_len (t : List Cm) : (seenD t).length = t.length + 1 := by simp [seenD]
theorem isT_seen (t : List Cm) : isT (seenD t) = true := rfl
end En

set_option Elab.async false
set_option linter.all false
set_option maxRecDepth 100000
set_option maxHeartbeats 4000000
namespace En
open PySem L2

@[simp] theorem tup_0 (a : D) (l : List D) : semIx (.tuple (a :: l)) (.int 0) = some a := ix_tup (l := a :: l) (i := 0) rfl
@[simp] theorem tup_1 (a b : D) (l : List D) : semIx (.tuple (a :: b :: l)) (.int 1) = some b := ix_tup (l := a :: b :: l) (i := 1) rfl
@[simp] theorem tup_2 (a b c : D) (l : List D) : semIx (.tuple (a :: b :: c :: l)) (.int 2) = some c := ix_tup (l := a :: b :: c :: l) (i := 2) rfl
@[simp] theorem lst_0 (a : D) (l : List D) : semIx (.list (a :: l)) (.int 0) = some a := ix_list (l := a :: l) (i := 0) rfl
@[simp] theorem lst_1 (a b : D) (l : List D) : semIx (.list (a :: b :: l)) (.int 1) = some b := ix_list (l := a :: b :: l) (i := 1) rfl
@[simp] theorem lst_2 (a b c : D) (l : List D) : semIx (.list (a :: b :: c :: l)) (.int 2) = some c := ix_list (l := a :: b :: c :: l) (i := 2) rfl
theorem ne_ld : ¬ lostT = dropT := by decide
theorem ne_sd : ¬ sentT = dropT := by decide
theorem ne_sl : ¬ sentT = lostT := by decide
theorem in_seen (t : List Cm) (c : Cm) : inO (cm c) (.dict (seenD t)) = some (decide (c ∈ t)) := by
  show (if isT (seenD t) then (keysO [tx c.1, tx c.2.1, tx c.2.2]).map (hasT (seenD t)) else none) = _
  rw [isT_seen, if_pos rfl, keysO_cm, Option.map_some, seen_has]
theorem dget_seen {t : List Cm} {c : Cm} (h : c ∈ t) : dget (seenD t) (cm c) = some (some (.int (t.idxOf c : Int))) := by
  show (if isT (seenD t) then (keysO [tx c.1, tx c.2.1, tx c.2.2]).map (getT (seenD t)) else none) = _
  rw [isT_seen, if_pos rfl, keysO_cm, Option.map_some, seen_get h]
theorem dput_seen {t : List Cm} {c : Cm} (h : c ∉ t) (n : Nat) (hn : n = t.length) : dputD (seenD t) (cm c) (.int (n : Int)) = some (seenD (t ++ [c])) := by
  show (if isT (seenD t) then (keysO [tx c.1, tx c.2.1, tx c.2.2]).map (fun k => putT (seenD t) k (.int (n : Int))) else none) = _
  rw [isT_seen, if_pos rfl, keysO_cm, Option.map_some]
  unfold putT
  rw [seen_has, decide_eq_false h, seen_app, hn]
  rfl
theorem dputR_seen {t : List Cm} {c : Cm} {env : List Sl} {i : Nat} {m m' : Bool} {n : Nat} (h : c ∉ t) (hl : t.length + 1 < sizeLine) (hn : n = t.length) : dputR (some (.ow false (.dict (seenD t)))) i env (.ok (.fr m (.int (n : Int)))) (.ok (.fr m' (cm c))) = .next (env.set i (.ow false (.dict (seenD (t ++ [c]))))) := by
  unfold dputR
  simp [dput_seen h n hn, seen_len, hl]
theorem in_list {α : Type} {f : α → D} {k : Nat} (hk : k ≤ 63) (hf : ∀ a b, PyData.eqv (f a) (f b) = true ↔ a = b) {t : List α} {c : α} [Decidable (c ∈ t)] (hc : Nc k (f c)) (ht : ∀ a ∈ t, Nc k (f a)) : inO (f c) (.list (t.map f)) = some (decide (c ∈ t)) := by
  have e : ((t.map f).any fun z => PyData.eqv z (f c)) = decide (c ∈ t) := by
    rw [Bool.eq_iff_iff, List.any_eq_true, decide_eq_true_iff]
    constructor
    · rintro ⟨z, hz, h⟩
      obtain ⟨a, ha, rfl⟩ := List.mem_map.mp hz
      rw [hf] at h
      rw [← h]
      exact ha
    · intro h
      exact ⟨_, List.mem_map_of_mem h, by rw [hf]⟩
  have s1 := hc.shp (by omega)
  have s2 : shp (.list (t.map f)) = true := (nc_list (k := k) fun d hd => by
    obtain ⟨a, ha, rfl⟩ := List.mem_map.mp hd
    exact ht a ha).shp (by omega)
  show (if sc (f c) && (t.map f).all sc then some ((t.map f).any fun z => PyData.eqv z (f c)) else if shp (f c) && shp (.list (t.map f)) then some ((t.map f).any fun z => PyData.eqv z (f c)) else none) = _
  rw [e, s1, s2]
  split <;> rfl
theorem lix_list {α : Type} [BEq α] [LawfulBEq α] {f : α → D} {k : Nat} (hk : k ≤ 63) (hf : ∀ a b, PyData.eqv (f a) (f b) = true ↔ a = b) {t : List α} {c : α} (hc : Nc k (f c)) (ht : ∀ a ∈ t, Nc k (f a)) (h : c ∈ t) : semLix (.list (t.map f)) (f c) = some (t.idxOf c : Int) := by
  have e : ∀ {t : List α}, c ∈ t → (t.map f).findIdx? (fun z => PyData.eqv z (f c)) = some (t.idxOf c) := by
    intro t
    induction t with
    | nil => exact fun h => nomatch h
    | cons a t ih =>
      intro h
      rw [List.map_cons, List.findIdx?_cons, List.idxOf_cons]
      by_cases hac : a = c
      · subst hac
        rw [(hf a a).mpr rfl]
        simp
      · rw [Bool.eq_false_iff.mpr fun z => hac ((hf a c).mp z), ih ((List.mem_cons.mp h).resolve_left fun z => hac z.symm)]
        have : (a == c) = false := by simpa using hac
        rw [this]
        rfl
  have s1 := hc.shp (by omega)
  have s2 : shp (.list (t.map f)) = true := (nc_list (k := k) fun d hd => by
    obtain ⟨a, ha, rfl⟩ := List.mem_map.mp hd
    exact ht a ha).shp (by omega)
  unfold semLix
  dsimp only
  rw [s1, s2, e h]
  simp
theorem in_cms {t : List Cm} {c : Cm} (hc : SmC c) (ht : ∀ a ∈ t, SmC a) : inO (cm c) (.list (t.map cm)) = some (decide (c ∈ t)) := in_list (k := 1) (by decide) (fun a b => by rw [eqv_cm, decide_eq_true_iff]) (nc_cm hc) fun a ha => nc_cm (ht a ha)
theorem lix_cms {t : List Cm} {c : Cm} (hc : SmC c) (ht : ∀ a ∈ t, SmC a) (h : c ∈ t) : semLix (.list (t.map cm)) (cm c) = some (t.idxOf c : Int) := lix_list (k := 1) (by decide) (fun a b => by rw [eqv_cm, decide_eq_true_iff]) (nc_cm hc) (fun a ha => nc_cm (ht a ha)) h
@[simp] theorem unpR_cm (m : Bool) (c : Cm) (l : List Nat) (env : List Sl) : unpR (.fr m (cm c)) l env = .of (setAll m l [tx c.1, tx c.2.1, tx c.2.2] env) .next := (rfl)
@[simp] theorem unpR_nt (m : Bool) (N : Nt) (l : List Nat) (env : List Sl) : unpR (.fr m (nt N)) l env = .of (setAll m l [.list (N.lay.map fl), .list (N.hs.map nh), .list (N.ls.map ln)] env) .next := (rfl)
@[simp] theorem unpR_spt (m : Bool) (c : Spt) (l : List Nat) (env : List Sl) : unpR (.fr m (spt c)) l env = .of (setAll m l [tx c.1, tx c.2] env) .next := (rfl)
theorem walk_fin {sp : Nat × Nat} {N : Nt} {k : Nat} {t : List Cm} {c : Cm} {e : Fin2} (h : c ∉ t) (hs : stepN sp N c = some (.fin e)) : walkN sp N (k + 1) t c = some (t ++ [c], e) := by
  unfold walkN
  rw [if_neg h, hs]
theorem walk_go {sp : Nat × Nat} {N : Nt} {k : Nat} {t : List Cm} {c c' : Cm} (h : c ∉ t) (hs : stepN sp N c = some (.go c')) : walkN sp N (k + 1) t c = walkN sp N k (t ++ [c]) c' := by
  rw [walkN, if_neg h, hs]
theorem walk_ring {sp : Nat × Nat} {N : Nt} {k : Nat} {t : List Cm} {c : Cm} (h : c ∈ t) : walkN sp N (k + 1) t c = some (t, .ring (minT ((t.drop (t.idxOf c)).map (·.1)))) := by
  rw [walkN, if_pos h]
namespace M
def LayoutWidthAt (Γ : FT) : Prop := ∃ Γ' n, Γ "layout_width" = some (1, fun ds => runF Γ' n layoutWidth ds)
def IsLetterAt (Γ : FT) : Prop := ∃ Γ' n, IsRowPAt Γ' ∧ Γ "is_letter" = some (2, fun ds => runF Γ' n isLetterP ds)
def RuleDeedAt (Γ : FT) : Prop := ∃ Γ' n, RuleFirstAt Γ' ∧ WrittenAt Γ' ∧ Γ "rule_deed" = some (2, fun ds => runF Γ' n ruleDeed ds)
def HouseDoesAt (Γ : FT) : Prop := ∃ Γ' n z, DoorRulesAt Γ' z ∧ RuleDeedAt Γ' ∧ RuleFirstAt Γ' ∧ WayFoundAt Γ' ∧ FieldPartAt Γ' ∧ Γ "house_does" = some (4, fun ds => runF Γ' n houseDoes ds)
/-- the least name of a ring -/
theorem ring_lc {X : Str → Prop} {Γ : FT} {m : Bool} {env : List Sl} {i : Nat} (hi : i < env.length) (t : List Cm) (K : Bool × List D → Prop) (q : K (false, (t.map (·.1)).map tx)) : RS X (lcR (lcT Γ env (.n i) .no (.ix (.v i) (.ki 0)) m) (t.map cm)) K := by
  refine rs_lc (fun j m' L => m' = false ∧ L = ((t.map (·.1)).map tx).take j) ⟨rfl, rfl⟩ (fun j d m' L hd h => ?_) fun m' L h => ?_
  · obtain ⟨rfl, rfl⟩ := h
    obtain ⟨hj, rfl⟩ := map_at hd
    have g := take_get (l := (t.map (·.1)).map tx) (i := j) (a := tx t[j].1) (by rw [List.getElem?_map, List.getElem?_map, List.getElem?_eq_getElem hj]; rfl)
    simp [lcT, hi]
    rw [List.map_map] at g
    exact g.symm
  · obtain ⟨rfl, rfl⟩ := h
    rw [List.take_of_length_le (by simp)]
    exact q
def netWalkW (z : MS) : MF := ⟨10, (.cons (.exp (.call "net_tied" (.cons (.v 0) (.cons (.v 1) (.cons (.v 2) .nil))))) (.cons (.ife (.not_ (.call "is_letter" (.cons (.v 3) (.cons (.call "layout_width" (.cons (.ix (.v 0) (.ki 0)) .nil)) .nil)))) (.cons z .nil) .nil) (.cons (.set 4 (.lst .nil) true) (.cons (.set 5 .dT0 true) (.cons (.set 6 (.tup (.cons (.v 1) (.cons (.v 2) (.cons (.v 3) .nil)))) false) (.cons (.whl (.cmp .NotIn (.v 6) (.v 5)) (.cons (.dput 5 (.v 6) (.bi "len" (.cons (.v 4) .nil))) (.cons (.app 4 (.v 6)) (.cons (.unp [1, 2, 3] (.v 6)) (.cons (.set 7 (.call "house_does" (.cons (.ix (.v 0) (.ki 0)) (.cons (.call "house_named" (.cons (.v 0) (.cons (.v 1) .nil))) (.cons (.v 2) (.cons (.v 3) .nil))))) false) (.cons (.ife (.cmp .Eq (.ix (.v 7) (.ki 0)) (.ks "drop")) (.frz 4 (.cons (.ret (.tup (.cons (.v 4) (.cons (.tup (.cons (.ks "drop") (.cons (.v 1) (.cons (.v 2) (.cons (.ix (.v 7) (.ki 1)) .nil))))) .nil)))) .nil)) .nil) (.cons (.ife (.cmp .Eq (.ix (.v 7) (.ki 0)) (.ks "lost")) (.frz 4 (.cons (.ret (.tup (.cons (.v 4) (.cons (.tup (.cons (.ks "lost") (.cons (.v 1) (.cons (.v 2) .nil)))) .nil)))) .nil)) .nil) (.cons (.set 8 (.call "net_tied" (.cons (.v 0) (.cons (.v 1) (.cons (.ix (.v 7) (.ki 1)) .nil)))) false) (.cons (.ife (.cmp .Is (.v 8) .kn) (.frz 4 (.cons (.ret (.tup (.cons (.v 4) (.cons (.tup (.cons (.ks "out") (.cons (.v 1) (.cons (.ix (.v 7) (.ki 1)) (.cons (.ix (.v 7) (.ki 2)) .nil))))) .nil)))) .nil)) .nil) (.cons (.set 6 (.tup (.cons (.ix (.v 8) (.ki 0)) (.cons (.ix (.v 8) (.ki 1)) (.cons (.ix (.v 7) (.ki 2)) .nil)))) false) .nil)))))))))) (.frz 4 (.cons (.ret (.tup (.cons (.v 4) (.cons (.tup (.cons (.ks "ring") (.cons (.bi "min" (.cons (.lc (.n 9) (.e (.sl (.v 4) (.so (.dix (.v 5) (.v 6))) .no)) .no (.ix (.v 9) (.ki 0))) .nil)) .nil))) .nil)))) .nil))))))))⟩
theorem netWalk_ok {Γ : FT} {X : Str → Prop} {K : Rv → Prop} {z z1 z2 z3 : MS} (ht : NetTiedAt Γ z1 z2) (hh : HouseNamedAt Γ z3) (hlw : LayoutWidthAt Γ) (hil : IsLetterAt Γ) (hd : HouseDoesAt Γ) {N : Nt} {sp : Nat × Nat} {w : Nat} (hN : NtOk N sp w) {c : Cm} (hc : CmOk N w c) {k : Nat} (hk : k ≤ 90001) {r : List Cm × Fin2} (e : walkN sp N k [] c = some r) (q : K (.fr false (walkD r))) : RS X (runF Γ 100000 (netWalkW z) [nt N, tx c.1, tx c.2.1, tx c.2.2]) K := by
  obtain ⟨Γ1, n1, ha, hb, f1⟩ := ht
  obtain ⟨Γ2, n2, f2⟩ := hh
  obtain ⟨Γ3, n3, f3⟩ := hlw
  obtain ⟨Γ4, n4, g4, f4⟩ := hil
  obtain ⟨Γ5, n5, z5, i1, i2, i3, i4, i5, f5⟩ := hd
  have wd := hN.wide
  have tiedK : ∀ (h : Ho) (rs : List Ru) (x d : Tx) (K : Rv → Prop), look N.hs x = some h → look h.1 d = some rs → Sm x → Sm d → (∀ m, K (.fr m (sptD (tied N.ls (x, d))))) → RS X (runF Γ1 n1 netTied [nt N, tx x, tx d]) K := fun h rs x d K e1 e2 s1 s2 q => netTied_ok ha hb N x d e1 e2 hN.lsm s1 s2 q
  refine rs_run ?_
  obtain ⟨hh0, rs0, a1, a2, _⟩ := step_ok hN hc
  have sc0 := hc.sm hN
  have lw := layoutWidth_eq (Γ := Γ3) (n := n3) N.lay hN.lay.1
  simp [netWalkW, startE, e_call f1, e_call f3, e_call f4]
  refine tiedK hh0 rs0 _ _ _ a1 a2 sc0.1 sc0.2.1 fun m => ?_
  simp [e_call f3, e_call f4, lw]
  refine isLetterP_ok (Γ := Γ4) g4 c.2.2 (wid N.lay) (by rw [hc.2.1]; omega) ?_
  have il : decide (c.2.2.length = wid N.lay ∧ ∀ x ∈ c.2.2, x ∈ [48, 49]) = true := decide_eq_true ⟨by rw [hc.2.1, wd.1], fun x hx => by rcases hc.2.2 x hx with h | h <;> simp [h]⟩
  rw [il]
  simp
  obtain ⟨I, hI⟩ : ∃ I : Nat → List Sl → Prop, ∀ m e, I m e = ∃ (t : List Cm) (c : Cm) (s1 s2 s3 s7 s8 s9 : Sl), e = [.fr true (nt N), s1, s2, s3, .ow false (.list (t.map cm)), .ow false (.dict (seenD t)), .fr false (cm c), s7, s8, s9] ∧ walkN sp N m t c = some r ∧ CmOk N w c ∧ (∀ a ∈ t, CmOk N w a) ∧ t.length + m ≤ 90001 := ⟨_, fun _ _ => rfl⟩
  refine ⟨sz 3 (by decide), ?_⟩
  refine fs_whl I (n := 100000) (m := k) ?_ (by omega) fun m e1 h => ?_
  · rw [hI]
    exact ⟨[], c, _, _, _, _, _, _, rfl, e, hc, (fun a h => nomatch h), by simpa using hk⟩
  · rw [hI] at h
    obtain ⟨t, c, s1, s2, s3, s7, s8, s9, rfl, hw, hc, hts, hlen⟩ := h
    obtain ⟨m, rfl⟩ : ∃ m', m = m' + 1 := by
      cases m with
      | zero => cases hw
      | succ m => exact ⟨m, rfl⟩
    have lt1 : t.length + 1 < sizeLine := slt (by omega)
    have lt2 : t.length < sizeLine := slt (by omega)
    simp [in_seen]
    by_cases hct : c ∈ t
    · rw [walk_ring hct] at hw
      cases hw
      refine ⟨fun h => absurd hct h, fun _ => ?_⟩
      simp [dget_seen hct, cut_from]
      rw [← List.map_drop]
      have ne : t.drop (t.idxOf c) ≠ [] := by
        have := List.idxOf_lt_length_of_mem hct
        intro h
        have := congrArg List.length h
        rw [List.length_drop, List.length_nil] at this
        omega
      have few : (t.drop (t.idxOf c)).length ≤ sizeLine := sz _ (by rw [List.length_drop]; omega)
      generalize t.drop (t.idxOf c) = R at *
      refine ring_lc (Nat.lt_of_sub_eq_succ rfl) _ _ ?_
      have bm : semBi "min" [.list (R.map (tx ∘ fun x => x.1))] = some (false, tx (minT (R.map (·.1)))) := by
        rw [← List.map_map]
        exact bi_minT (by rw [ne_eq, List.map_eq_nil_iff]; exact ne)
      simp [few, bm, sz 2 (by decide)]
      exact ⟨by have := sizeLine_eq; omega, q⟩
    · refine ⟨fun _ => ?_, fun h => absurd h hct⟩
      simp [dputR_seen hct lt1 rfl, lt2, e_call f2, e_call f5]
      obtain ⟨h', rs, b1, b2, f⟩ := step_ok hN hc
      have scc := hc.sm hN
      have es : stepN sp N c = (match doesO sp h'.2 rs c.2.2 with
        | .drop n => some (.fin (.drop c.1 c.2.1 n))
        | .lost => some (.fin (.lost c.1 c.2.1))
        | .sent o l => match tied N.ls (c.1, o) with
          | none => some (.fin (.out c.1 o l))
          | some t => some (.go (t.1, t.2, l))) := by
        unfold stepN
        rw [b1]
        dsimp only
        rw [b2]
        all_goals rfl
      refine houseNamed_ok (Γ := Γ2) N c.1 b1 fun m2 => ?_
      simp [e_call f5]
      have hok := (hN.house _ (look_mem b1)).2
      refine houseDoes_ok (Γ := Γ5) i1 i2 i3 i4 i5 N.lay h' c.2.1 c.2.2 hN.span b2 (by rw [hc.2.1]; omega) (fun v hv => by have := (hok.way v hv).2.1; have := span_le hN.span; omega) ?_
      cases ed : doesO sp h'.2 rs c.2.2 with
      | drop n =>
        rw [ed] at es
        rw [walk_fin hct es] at hw
        cases hw
        simp [doesD, ne_ld, ne_sd, ne_sl, sz 4 (by decide), sz 2 (by decide)]
        simpa [walkD, finD] using q
      | lost =>
        rw [ed] at es
        rw [walk_fin hct es] at hw
        cases hw
        simp [doesD, ne_ld, ne_sd, ne_sl, sz 3 (by decide), sz 2 (by decide)]
        simpa [walkD, finD] using q
      | sent o l =>
        obtain ⟨so, lo, _⟩ := f o l ed
        have sso := so.sm hN
        rw [ed] at es
        dsimp only at es
        obtain ⟨h2, c1, c2⟩ := so
        obtain ⟨rs2, c2⟩ := look_of c2
        simp [doesD, ne_ld, ne_sd, ne_sl, sz 4 (by decide), sz 2 (by decide), sz 3 (by decide), e_call f1]
        refine tiedK h2 rs2 c.1 o _ c1 c2 sso.1 sso.2 fun m3 => ?_
        cases et : tied N.ls (c.1, o) with
        | none =>
          rw [et] at es
          rw [walk_fin hct es] at hw
          cases hw
          simp [sptD, isO, sz 4 (by decide), sz 2 (by decide)]
          simpa [walkD, finD] using q
        | some s =>
          rw [et] at es
          rw [walk_go hct es] at hw
          have cok := (step_go hN hc es).1
          have iso : isO (spt s) .none = some false := rfl
          simp [sptD, iso, sz 3 (by decide)]
          refine ⟨m, by omega, ?_⟩
          rw [show List.map cm t ++ [cm c] = (t ++ [c]).map cm by simp, hI]
          refine ⟨t ++ [c], (s.1, s.2, l), _, _, _, _, _, _, rfl, hw, cok, fun a ha => ?_, by rw [List.length_append, List.length_singleton]; omega⟩
          rcases List.mem_append.mp ha with ha | ha
          · exact hts a ha
          · rw [List.mem_singleton.mp ha]; exact hc
end M
end En

set_option Elab.async false
set_option linter.all false
set_option maxRecDepth 100000
set_option maxHeartbeats 4000000
namespace En
open PySem L2

theorem look_app {α : Type} (l1 l2 : List (Tx × α)) (x : Tx) : look (l1 ++ l2) x = (look l1 x).or (look l2 x) := by
  unfold look
  rw [List.findSome?_append]
theorem look_take {α : Type} {l : List (Tx × α)} {x : Tx} (hn : (l.map (·.1)).Nodup) {i : Nat} (hi : i < l.length) : look (l.take (i + 1)) x = if l[i].1 = x then some l[i].2 else look (l.take i) x := by
  rw [take_get (List.getElem?_eq_getElem hi), look_app]
  have e1 : look [l[i]] x = if l[i].1 = x then some l[i].2 else none := by
    unfold look
    rw [List.findSome?_cons]
    split <;> simp_all
  rw [e1]
  split
  · rename_i h
    rw [look_none, Option.none_or]
    intro hm
    rw [← h] at hm
    obtain ⟨p, hp, e⟩ := List.mem_map.mp hm
    obtain ⟨j, hj, rfl⟩ := List.getElem_of_mem hp
    rw [List.getElem_take] at e
    rw [List.length_take] at hj
    have hp := List.pairwise_iff_getElem.mp hn j i (by simp; omega) (by simpa using hi) (by omega)
    simp at hp
    exact hp e
  · simp
theorem enumD_at {ds : List D} {i : Nat} {d : D} (h : (enumD 0 ds)[i]? = some d) : ∃ hi : i < ds.length, d = .tuple [.int (i : Int), ds[i]] := by
  rw [enumD_get] at h
  cases e : ds[i]? with
  | none => rw [e] at h; cases h
  | some x =>
    obtain ⟨hi, rfl⟩ := List.getElem?_eq_some_iff.mp e
    rw [e] at h
    cases h
    exact ⟨hi, by simp⟩
namespace M
def lSpan : MF := ⟨4, (.cons (.set 1 (.ki 0) false) (.cons (.for_ (.t [2, 3]) (.e (.v 0)) (.cons (.ife (.cmp .Eq (.v 2) (.ks "to")) (.cons (.ret (.tup (.cons (.v 1) (.cons (.bin .Add (.v 1) (.v 3)) .nil)))) .nil) .nil) (.cons (.set 1 (.bin .Add (.v 1) (.v 3)) false) .nil))) (.cons (.ret (.tup (.cons (.ki 0) (.cons (.ki 0) .nil)))) .nil)))⟩
theorem lSpan_ok {Γ : FT} {n : Nat} {X : Str → Prop} {K : Rv → Prop} (ps : List Fd) {f b : Nat} (e : spanOf toT ps 0 = some (f, b)) (q : K (.fr false (.tuple [.int (f : Int), .int (b : Int)]))) : RS X (runF Γ n lSpan [.list (ps.map fl)]) K := by
  refine rs_run ?_
  simp [lSpan, startE]
  obtain ⟨I, hI⟩ : ∃ I : Nat → List Sl → Prop, ∀ i e, I i e = ∃ (s3 s4 : Sl) (a : Nat), e = [.fr true (.list (ps.map fl)), .fr false (.int (a : Int)), s3, s4] ∧ spanOf toT (ps.drop i) a = some (f, b) := ⟨_, fun _ _ => rfl⟩
  refine fs_for I ?_ (fun i d e hd h => ?_) (fun e h => ?_)
  · rw [hI]
    exact ⟨_, _, 0, rfl, e⟩
  · rw [hI] at h
    obtain ⟨s3, s4, a, rfl, he⟩ := h
    obtain ⟨hi, rfl⟩ := map_at hd
    rw [List.drop_eq_getElem_cons hi] at he
    unfold spanOf at he
    split at he
    · rename_i hx
      cases he
      simp [fl, hx, sz 2 (by decide)]
      simpa using q
    · rename_i hx
      simp [fl, hx, hI]
      exact ⟨_, _, a + ps[i].2, ⟨by omega, rfl, rfl⟩, he⟩
  · rw [hI] at h
    obtain ⟨s3, s4, a, rfl, he⟩ := h
    rw [List.length_map, List.drop_eq_nil_of_le (Nat.le_refl _)] at he
    cases he
def LSpanAt (Γ : FT) : Prop := ∃ Γ' n, Γ "_law_span" = some (1, fun ds => runF Γ' n lSpan ds)
def LLiesAt (Γ : FT) : Prop := ∃ Γ' n, Γ "_law_lies" = some (2, fun ds => runF Γ' n rowHolds ds)
def lWritten : MF := ⟨4, (.cons (.ret (.mt (.ks "") "join" (.cons (.lc (.t [2, 3]) (.zip (.v 0) (.v 1)) .no (.ite (.cmp .Eq (.v 3) (.ks "-")) (.v 2) (.v 3))) .nil))) .nil)⟩
theorem lWritten_ok {Γ : FT} {n : Nat} {X : Str → Prop} {K : Rv → Prop} (a o : Tx) (ha : a.length ≤ 1000) (q : K (.fr false (tx (wr a o)))) : RS X (runF Γ n lWritten [tx a, tx o]) K := by
  refine rs_run ?_
  simp [lWritten, startE]
  refine rs_lc (fun i m L => m = false ∧ L = ((wr a o).map fun c => tx [c]).take i) ⟨rfl, rfl⟩ (fun i d m L hd h => ?_) fun m L h => ?_
  · obtain ⟨rfl, rfl⟩ := h
    obtain ⟨hi, hj, rfl⟩ := zip_at hd
    have g := take_get (l := (wr a o).map fun c => tx [c]) (i := i) (a := tx [if o[i] = 45 then a[i] else o[i]]) (by rw [List.getElem?_map, wr_get hi hj]; rfl)
    generalize a[i] = x at *
    generalize o[i] = y at *
    rw [g]
    generalize List.take i ((wr a o).map fun c => tx [c]) = T at *
    simp [lcT]
    refine ⟨fun h => ?_, fun h => ?_⟩
    · rw [if_pos h]
    · rw [if_neg h]
  · obtain ⟨rfl, rfl⟩ := h
    have hl : (wr a o).length ≤ 1000 := by unfold wr; rw [List.length_zipWith]; omega
    have e : ((wr a o).map fun c => tx [c]).take (List.zipWith (fun a b => (PyData.tuple [tx [a], tx [b]] : D)) a o).length = (wr a o).map fun c => tx [c] := List.take_of_length_le (by simp [wr])
    rw [e]
    simp [join_sg (l := wr a o) (by omega)]
    exact ⟨sz _ (by omega), q⟩
def LWrittenAt (Γ : FT) : Prop := ∃ Γ' n, Γ "_law_written" = some (2, fun ds => runF Γ' n lWritten ds)
def lGoes : MF := ⟨9, (.cons (.unp [3, 4] (.call "_law_span" (.cons (.v 0) .nil))) (.cons (.set 5 (.neg (.ki 1)) false) (.cons (.set 6 (.tup (.cons (.ks "lost") .nil)) false) (.cons (.for_ (.t [7, 8]) (.e (.v 1)) (.cons (.ife (.bop true (.cons (.mt (.sl (.v 2) (.so (.v 3)) (.so (.v 4))) "startswith" (.cons (.v 7) .nil)) (.cons (.cmp .Gt (.bi "len" (.cons (.v 7) .nil)) (.v 5)) .nil))) (.cons (.set 5 (.bi "len" (.cons (.v 7) .nil)) false) (.cons (.set 6 (.tup (.cons (.ks "sent") (.cons (.v 8) (.cons (.v 2) .nil)))) false) .nil)) .nil) .nil)) (.cons (.ret (.v 6)) .nil)))))⟩
theorem lGoes_ok {Γ : FT} {n : Nat} {X : Str → Prop} {K : Rv → Prop} (hs : LSpanAt Γ) (ps : List Fd) (ws : List Wy) (l : Tx) {sp : Nat × Nat} (e0 : spanOf toT ps 0 = some sp) (hl : l.length ≤ 1000) (hw : ∀ v ∈ ws, v.1.length ≤ 1000) (q : K (.fr false (doesD (goesO sp ws l)))) : RS X (runF Γ n lGoes [.list (ps.map fl), .list (ws.map wy), tx l]) K := by
  obtain ⟨Γ1, n1, f1⟩ := hs
  obtain ⟨f, b⟩ := sp
  have le := span_le e0
  refine rs_run ?_
  simp [lGoes, startE, e_call f1]
  refine lSpan_ok (Γ := Γ1) ps e0 ?_
  simp [sz 1 (by decide)]
  obtain ⟨I, hI⟩ : ∃ I : Nat → List Sl → Prop, ∀ i e, I i e = ∃ (z : Int) (s7 s8 : Sl), e = [.fr true (.list (ps.map fl)), .fr true (.list (ws.map wy)), .fr false (tx l), .fr false (.int (f : Int)), .fr false (.int (b : Int)), .fr false (.int z), .fr false (doesD (match bst (ws.take i) (prt (f, b) l) with | some v => .sent v.2 l | none => .lost)), s7, s8] ∧ z = (match bst (ws.take i) (prt (f, b) l) with | some v => (v.1.length : Int) | none => -1) := ⟨_, fun _ _ => rfl⟩
  refine fs_for I ?_ (fun i d e hd h => ?_) (fun e h => ?_)
  · rw [hI]
    exact ⟨_, _, _, rfl, rfl⟩
  · rw [hI] at h
    obtain ⟨z, s7, s8, rfl, rfl⟩ := h
    obtain ⟨hi, rfl⟩ := map_at hd
    have g := take_get (List.getElem?_eq_getElem hi)
    have hv := hw _ (List.getElem_mem hi)
    have hb : bst (ws.take (i + 1)) (prt (f, b) l) = bstS (prt (f, b) l) (bst (ws.take i) (prt (f, b) l)) ws[i] := by rw [g]; unfold bst; rw [List.foldl_append]; rfl
    have ep : (l.take b).drop f = prt (f, b) l := rfl
    generalize bst (ws.take i) (prt (f, b) l) = bb at *
    generalize ws[i] = v at *
    obtain ⟨v1, v2⟩ := v
    have hv : v1.length ≤ 1000 := hv
    simp [wy, sl_tx (l := l) (sz _ (by omega)), cut_mid (l := l) le.2.1, ep, starts_tx, len_tx (l := v1) (sz _ (by omega)), sz 3 (by decide)]
    cases bb with
    | none =>
      have hb : bst (ws.take (i + 1)) (prt (f, b) l) = if v1 <+: prt (f, b) l then some (v1, v2) else none := by rw [hb]; simp [bstS]
      dsimp only
      refine ⟨fun hp _ => ?_, fun hp => ?_⟩
      · rw [hI, hb, if_pos hp]
        exact ⟨_, _, _, rfl, rfl⟩
      · have hn : ¬ v1 <+: prt (f, b) l := fun h => by have := hp h; omega
        rw [hI, hb, if_neg hn]
        exact ⟨_, _, _, rfl, rfl⟩
    | some u =>
      have hb : bst (ws.take (i + 1)) (prt (f, b) l) = if v1 <+: prt (f, b) l ∧ u.1.length < v1.length then some (v1, v2) else some u := by rw [hb]; simp [bstS]
      dsimp only
      refine ⟨fun hp hl => ?_, fun hp => ?_⟩
      · rw [hI, hb, if_pos ⟨hp, by omega⟩]
        exact ⟨_, _, _, rfl, rfl⟩
      · have hn : ¬ (v1 <+: prt (f, b) l ∧ u.1.length < v1.length) := fun ⟨h, h2⟩ => by have := hp h; omega
        rw [hI, hb, if_neg hn]
        exact ⟨_, _, _, rfl, rfl⟩
  · rw [hI] at h
    obtain ⟨z, s7, s8, rfl, rfl⟩ := h
    rw [List.take_of_length_le (by simp)]
    simp
    exact q
def LGoesAt (Γ : FT) : Prop := ∃ Γ' n, LSpanAt Γ' ∧ Γ "_law_goes" = some (3, fun ds => runF Γ' n lGoes ds)
def lDoes : MF := ⟨9, (.cons (.set 4 (.lst .nil) false) (.cons (.for_ (.t [5, 6]) (.e (.ix (.v 1) (.ki 0))) (.cons (.ife (.cmp .Eq (.v 5) (.v 2)) (.cons (.set 4 (.v 6) false) .nil) .nil) .nil)) (.cons (.for_ (.t [7, 8]) (.enum (.v 4)) (.cons (.ife (.call "_law_lies" (.cons (.ix (.v 8) (.ki 0)) (.cons (.v 3) .nil))) (.cons (.ife (.cmp .Eq (.ix (.v 8) (.ki 1)) (.ks "drop")) (.cons (.ret (.tup (.cons (.ks "drop") (.cons (.v 7) .nil)))) .nil) .nil) (.cons (.ret (.call "_law_goes" (.cons (.v 0) (.cons (.ix (.v 1) (.ki 1)) (.cons (.call "_law_written" (.cons (.v 3) (.cons (.ix (.v 8) (.ki 2)) .nil))) .nil))))) .nil)) .nil) .nil)) (.cons (.ret (.tup (.cons (.ks "drop") (.cons (.bi "len" (.cons (.v 4) .nil)) .nil)))) .nil))))⟩
theorem lDoes_ok {Γ : FT} {n : Nat} {X : Str → Prop} {K : Rv → Prop} (h1 : LLiesAt Γ) (h2 : LWrittenAt Γ) (h3 : LGoesAt Γ) (ps : List Fd) (h : Ho) (d l : Tx) {sp : Nat × Nat} {rs : List Ru} (e0 : spanOf toT ps 0 = some sp) (e1 : look h.1 d = some rs) (hn : (h.1.map (·.1)).Nodup) (hl : l.length ≤ 1000) (hw : ∀ v ∈ h.2, v.1.length ≤ 1000) (q : K (.fr false (doesD (doesO sp h.2 rs l)))) : RS X (runF Γ n lDoes [.list (ps.map fl), ho h, tx d, tx l]) K := by
  obtain ⟨Γ1, n1, f1⟩ := h1
  obtain ⟨Γ2, n2, f2⟩ := h2
  obtain ⟨Γ3, n3, g3, f3⟩ := h3
  refine rs_run ?_
  simp [lDoes, startE]
  obtain ⟨I, hI⟩ : ∃ I : Nat → List Sl → Prop, ∀ i e, I i e = ∃ (m : Bool) (s5 s6 s7 s8 : Sl), e = [.fr true (.list (ps.map fl)), .fr true (ho h), .fr false (tx d), .fr false (tx l), .fr m (.list (((look (h.1.take i) d).getD []).map rl)), s5, s6, s7, s8] := ⟨_, fun _ _ => rfl⟩
  refine fs_for I ?_ (fun i x e hd hi => ?_) (fun e hi => ?_)
  · rw [hI]
    exact ⟨_, _, _, _, _, rfl⟩
  · rw [hI] at hi
    obtain ⟨m, s5, s6, s7, s8, rfl⟩ := hi
    obtain ⟨hi, rfl⟩ := map_at hd
    have lt := look_take (x := d) hn hi
    generalize h.1[i] = g at *
    simp [gt]
    refine ⟨fun hx => ?_, fun hx => ?_⟩
    · rw [hI, lt, if_pos hx]
      exact ⟨_, _, _, _, _, rfl⟩
    · rw [hI, lt, if_neg hx]
      exact ⟨_, _, _, _, _, rfl⟩
  · rw [hI] at hi
    obtain ⟨m, s5, s6, s7, s8, rfl⟩ := hi
    rw [List.length_map, List.take_length, e1, Option.getD_some]
    simp
    obtain ⟨J, hJ⟩ : ∃ J : Nat → List Sl → Prop, ∀ i e, J i e = ∃ (s7 s8 : Sl), e = [.fr true (.list (ps.map fl)), .fr true (ho h), .fr false (tx d), .fr false (tx l), .fr m (.list (rs.map rl)), s5, s6, s7, s8] ∧ ∀ r ∈ rs.take i, ¬ Hold r.1 l := ⟨_, fun _ _ => rfl⟩
    refine fs_for J ?_ (fun i x e hd hi => ?_) (fun e hi => ?_)
    · rw [hJ]
      exact ⟨_, _, rfl, by simp⟩
    · rw [hJ] at hi
      obtain ⟨s7, s8, rfl, hno⟩ := hi
      obtain ⟨hi, rfl⟩ := enumD_at hd
      have hi' : i < rs.length := by simpa using hi
      have g := take_get (List.getElem?_eq_getElem hi')
      have fa := fun h => first_at (P := fun r : Ru => Hold r.1 l) hno hi' h
      rw [List.getElem_map]
      unfold doesO at q
      have er := List.getElem?_eq_getElem hi'
      generalize rs[i] = r at *
      simp [rl0, e_call f1]
      refine rowHolds_ok (Γ := Γ1) r.1 l fun b hb => ?_
      cases b with
      | true =>
        have fa := fa (hb.mp rfl)
        rw [fa, er] at q
        dsimp only at q
        simp [rl1, rl2, sz 2 (by decide), e_call f2, e_call f3]
        refine ⟨fun hd => ?_, fun hd => ?_⟩
        · rw [if_pos hd] at q; exact q
        · rw [if_neg hd] at q
          refine lWritten_ok (Γ := Γ2) l r.2.2 hl ?_
          simp [e_call f3]
          refine lGoes_ok (Γ := Γ3) g3 ps h.2 _ e0 (by unfold wr; rw [List.length_zipWith]; omega) hw ?_
          simp
          exact q
      | false =>
        simp
        rw [hJ]
        refine ⟨_, _, rfl, fun r' hr => ?_⟩
        rw [g] at hr
        rcases List.mem_append.mp hr with hr | hr
        · exact hno r' hr
        · rw [List.mem_singleton.mp hr]
          exact fun z => nomatch hb.mpr z
    · rw [hJ] at hi
      obtain ⟨s7, s8, rfl, hno⟩ := hi
      rw [enumD_length, List.length_map, List.take_length] at hno
      have fe := first_no (P := fun r : Ru => Hold r.1 l) hno
      unfold doesO at q
      rw [fe, List.getElem?_eq_none (Nat.le_refl _)] at q
      simp [sz 2 (by decide)]
      exact q
def LDoesAt (Γ : FT) : Prop := ∃ Γ' n, LLiesAt Γ' ∧ LWrittenAt Γ' ∧ LGoesAt Γ' ∧ Γ "_law_does" = some (4, fun ds => runF Γ' n lDoes ds)
def lHouseOf : MF := ⟨4, (.cons (.for_ (.t [2, 3]) (.e (.v 0)) (.cons (.ife (.cmp .Eq (.v 2) (.v 1)) (.cons (.ret (.v 3)) .nil) .nil) .nil)) (.cons (.ret (.tup (.cons (.lst .nil) (.cons (.lst .nil) .nil)))) .nil))⟩
theorem lHouseOf_ok {Γ : FT} {n : Nat} {X : Str → Prop} {K : Rv → Prop} (hs : List Nh) (x : Tx) {h : Ho} (e : look hs x = some h) (q : ∀ m, K (.fr m (ho h))) : RS X (runF Γ n lHouseOf [.list (hs.map nh), tx x]) K := by
  refine rs_run ?_
  simp [lHouseOf, startE]
  refine fs_find (fun e => ∃ s2 s3, e = [.fr true (.list (hs.map nh)), .fr false (tx x), s2, s3]) (fun p : Nh => if p.1 = x then some p.2 else none) ⟨_, _, rfl⟩ (fun g v hg hS => ⟨fun hn => ?_, fun c hc hf => ?_⟩) (fun hn => by rw [show hs.findSome? _ = some h from e] at hn; cases hn)
  · obtain ⟨s2, s3, rfl⟩ := hS
    split at hn
    · cases hn
    · rename_i hne
      simp [nh, hne]
  · obtain ⟨s2, s3, rfl⟩ := hS
    split at hc
    · rename_i he
      cases hc
      rw [show hs.findSome? _ = some h from e] at hf
      cases hf
      simp [nh, he]
      exact q _
    · cases hc
def LHouseOfAt (Γ : FT) : Prop := ∃ Γ' n, Γ "_law_house_of" = some (2, fun ds => runF Γ' n lHouseOf ds)
def lBeyond : MF := ⟨4, (.cons (.for_ (.t [2, 3]) (.e (.v 0)) (.cons (.ife (.cmp .Eq (.v 2) (.v 1)) (.cons (.ret (.v 3)) .nil) .nil) (.cons (.ife (.cmp .Eq (.v 3) (.v 1)) (.cons (.ret (.v 2)) .nil) .nil) .nil))) (.cons (.ret .kn) .nil))⟩
theorem lBeyond_ok {Γ : FT} {n : Nat} {X : Str → Prop} {K : Rv → Prop} (ls : List Ln) (s : Spt) (hl : ∀ l ∈ ls, SmS l.1 ∧ SmS l.2) (hs : SmS s) (q : ∀ m, K (.fr m (sptD (tied ls s)))) : RS X (runF Γ n lBeyond [.list (ls.map ln), spt s]) K := by
  refine rs_run ?_
  simp [lBeyond, startE]
  refine fs_find (fun e => ∃ s3 s4, e = [.fr true (.list (ls.map ln)), .fr false (spt s), s3, s4]) (fun l : Ln => if l.1 = s then some l.2 else if l.2 = s then some l.1 else none) ⟨_, _, rfl⟩ (fun l e hm hS => ?_) (fun hn e hS => ?_)
  · obtain ⟨s3, s4, rfl⟩ := hS
    obtain ⟨l1, l2⟩ := hl l hm
    have ess := eq_spt hs hs
    refine ⟨fun hn => ?_, fun c hc hf => ?_⟩
    · split at hn
      · cases hn
      · split at hn
        · cases hn
        · rename_i g1 g2
          simp [ln, eq_spt l1 hs, eq_spt l2 hs, g1, g2]
    · rw [show ls.findSome? _ = tied ls s from rfl] at hf
      rw [hf] at q
      split at hc
      · rename_i g1
        cases hc
        simp [ln, ess, eq_spt l1 hs, g1]
        exact q _
      · split at hc
        · rename_i g1 g2
          cases hc
          simp [ln, ess, eq_spt l1 hs, eq_spt l2 hs, g1, g2]
          exact q _
        · cases hc
  · obtain ⟨s3, s4, rfl⟩ := hS
    rw [show ls.findSome? _ = tied ls s from rfl] at hn
    rw [hn] at q
    exact q _
def LBeyondAt (Γ : FT) : Prop := ∃ Γ' n, Γ "_law_beyond" = some (2, fun ds => runF Γ' n lBeyond ds)
def lWalk : MF := ⟨11, (.cons (.unp [3, 4, 5] (.v 0)) (.cons (.set 6 (.lst .nil) true) (.cons (.set 7 (.tup (.cons (.ix (.v 1) (.ki 0)) (.cons (.ix (.v 1) (.ki 1)) (.cons (.v 2) .nil)))) false) (.cons (.whl (.cmp .NotIn (.v 7) (.v 6)) (.cons (.app 6 (.v 7)) (.cons (.set 8 (.call "_law_does" (.cons (.v 3) (.cons (.call "_law_house_of" (.cons (.v 4) (.cons (.ix (.v 7) (.ki 0)) .nil))) (.cons (.ix (.v 7) (.ki 1)) (.cons (.ix (.v 7) (.ki 2)) .nil))))) false) (.cons (.ife (.cmp .Eq (.ix (.v 8) (.ki 0)) (.ks "drop")) (.frz 6 (.cons (.ret (.tup (.cons (.v 6) (.cons (.tup (.cons (.ks "drop") (.cons (.ix (.v 7) (.ki 0)) (.cons (.ix (.v 7) (.ki 1)) (.cons (.ix (.v 8) (.ki 1)) .nil))))) .nil)))) .nil)) .nil) (.cons (.ife (.cmp .Eq (.ix (.v 8) (.ki 0)) (.ks "lost")) (.frz 6 (.cons (.ret (.tup (.cons (.v 6) (.cons (.tup (.cons (.ks "lost") (.cons (.ix (.v 7) (.ki 0)) (.cons (.ix (.v 7) (.ki 1)) .nil)))) .nil)))) .nil)) .nil) (.cons (.set 9 (.call "_law_beyond" (.cons (.v 5) (.cons (.tup (.cons (.ix (.v 7) (.ki 0)) (.cons (.ix (.v 8) (.ki 1)) .nil))) .nil))) false) (.cons (.ife (.cmp .Is (.v 9) .kn) (.frz 6 (.cons (.ret (.tup (.cons (.v 6) (.cons (.tup (.cons (.ks "out") (.cons (.ix (.v 7) (.ki 0)) (.cons (.ix (.v 8) (.ki 1)) (.cons (.ix (.v 8) (.ki 2)) .nil))))) .nil)))) .nil)) .nil) (.cons (.set 7 (.tup (.cons (.ix (.v 9) (.ki 0)) (.cons (.ix (.v 9) (.ki 1)) (.cons (.ix (.v 8) (.ki 2)) .nil)))) false) .nil)))))))) (.frz 6 (.cons (.ret (.tup (.cons (.v 6) (.cons (.tup (.cons (.ks "ring") (.cons (.bi "min" (.cons (.lc (.n 10) (.e (.sl (.v 6) (.so (.lix (.v 6) (.v 7))) .no)) .no (.ix (.v 10) (.ki 0))) .nil)) .nil))) .nil)))) .nil))))))⟩
theorem lWalk_ok {Γ : FT} {X : Str → Prop} {K : Rv → Prop} (h1 : LDoesAt Γ) (h2 : LHouseOfAt Γ) (h3 : LBeyondAt Γ) {N : Nt} {sp : Nat × Nat} {w : Nat} (hN : NtOk N sp w) {c : Cm} (hc : CmOk N w c) {k : Nat} (hk : k ≤ 90001) {r : List Cm × Fin2} (e : walkN sp N k [] c = some r) (q : K (.fr false (walkD r))) : RS X (runF Γ 100000 lWalk [nt N, spt (c.1, c.2.1), tx c.2.2]) K := by
  obtain ⟨Γ1, n1, i1, i2, i3, f1⟩ := h1
  obtain ⟨Γ2, n2, f2⟩ := h2
  obtain ⟨Γ3, n3, f3⟩ := h3
  have wd := hN.wide
  refine rs_run ?_
  simp [lWalk, startE, sz 3 (by decide)]
  obtain ⟨I, hI⟩ : ∃ I : Nat → List Sl → Prop, ∀ m e, I m e = ∃ (t : List Cm) (c : Cm) (s1 s2 s8 s9 s10 : Sl), e = [.fr true (nt N), s1, s2, .fr true (.list (N.lay.map fl)), .fr true (.list (N.hs.map nh)), .fr true (.list (N.ls.map ln)), .ow false (.list (t.map cm)), .fr false (cm c), s8, s9, s10] ∧ walkN sp N m t c = some r ∧ CmOk N w c ∧ (∀ a ∈ t, CmOk N w a) ∧ t.length + m ≤ 90001 := ⟨_, fun _ _ => rfl⟩
  refine fs_whl I (n := 100000) (m := k) ?_ (by omega) fun m e1 h => ?_
  · rw [hI]
    exact ⟨[], c, _, _, _, _, _, rfl, e, hc, (fun a h => nomatch h), by simpa using hk⟩
  · rw [hI] at h
    obtain ⟨t, c, s1, s2, s8, s9, s10, rfl, hw, hc, hts, hlen⟩ := h
    obtain ⟨m, rfl⟩ : ∃ m', m = m' + 1 := by
      cases m with
      | zero => cases hw
      | succ m => exact ⟨m, rfl⟩
    have lt2 : t.length < sizeLine := slt (by omega)
    have scc := hc.sm hN
    have sct : ∀ a ∈ t, SmC a := fun a ha => (hts a ha).sm hN
    simp [in_cms scc sct]
    by_cases hct : c ∈ t
    · rw [walk_ring hct] at hw
      cases hw
      refine ⟨fun h => absurd hct h, fun _ => ?_⟩
      simp [lix_cms scc sct hct, cut_from]
      rw [← List.map_drop]
      have ne : t.drop (t.idxOf c) ≠ [] := by
        have := List.idxOf_lt_length_of_mem hct
        intro h
        have := congrArg List.length h
        rw [List.length_drop, List.length_nil] at this
        omega
      have few : (t.drop (t.idxOf c)).length ≤ sizeLine := sz _ (by rw [List.length_drop]; omega)
      generalize t.drop (t.idxOf c) = R at *
      refine ring_lc (Nat.lt_of_sub_eq_succ rfl) _ _ ?_
      have bm : semBi "min" [.list (R.map (tx ∘ fun x => x.1))] = some (false, tx (minT (R.map (·.1)))) := by
        rw [← List.map_map]
        exact bi_minT (by rw [ne_eq, List.map_eq_nil_iff]; exact ne)
      simp [few, bm, sz 2 (by decide)]
      exact ⟨by have := sizeLine_eq; omega, q⟩
    · refine ⟨fun _ => ?_, fun h => absurd h hct⟩
      obtain ⟨h', rs, b1, b2, f⟩ := step_ok hN hc
      have es : stepN sp N c = (match doesO sp h'.2 rs c.2.2 with
        | .drop n => some (.fin (.drop c.1 c.2.1 n))
        | .lost => some (.fin (.lost c.1 c.2.1))
        | .sent o l => match tied N.ls (c.1, o) with
          | none => some (.fin (.out c.1 o l))
          | some t => some (.go (t.1, t.2, l))) := by
        unfold stepN
        rw [b1]
        dsimp only
        rw [b2]
        all_goals rfl
      simp [lt2, e_call f1, e_call f2]
      refine lHouseOf_ok (Γ := Γ2) N.hs c.1 b1 fun m2 => ?_
      simp [e_call f1]
      have hok := (hN.house _ (look_mem b1)).2
      refine lDoes_ok (Γ := Γ1) i1 i2 i3 N.lay h' c.2.1 c.2.2 hN.span b2 hok.doors (by rw [hc.2.1]; omega) (fun v hv => by have := (hok.way v hv).2.1; have := span_le hN.span; omega) ?_
      cases ed : doesO sp h'.2 rs c.2.2 with
      | drop n =>
        rw [ed] at es
        rw [walk_fin hct es] at hw
        cases hw
        simp [doesD, ne_ld, ne_sd, ne_sl, sz 4 (by decide), sz 2 (by decide)]
        simpa [walkD, finD] using q
      | lost =>
        rw [ed] at es
        rw [walk_fin hct es] at hw
        cases hw
        simp [doesD, ne_ld, ne_sd, ne_sl, sz 3 (by decide), sz 2 (by decide)]
        simpa [walkD, finD] using q
      | sent o l =>
        obtain ⟨so, lo, _⟩ := f o l ed
        have sso := so.sm hN
        rw [ed] at es
        dsimp only at es
        simp [doesD, ne_ld, ne_sd, ne_sl, sz 4 (by decide), sz 2 (by decide), sz 3 (by decide), e_call f3]
        refine lBeyond_ok (Γ := Γ3) N.ls (c.1, o) hN.lsm sso fun m3 => ?_
        cases et : tied N.ls (c.1, o) with
        | none =>
          rw [et] at es
          rw [walk_fin hct es] at hw
          cases hw
          simp [sptD, isO, sz 4 (by decide), sz 2 (by decide)]
          simpa [walkD, finD] using q
        | some s =>
          rw [et] at es
          rw [walk_go hct es] at hw
          have cok := (step_go hN hc es).1
          have iso : isO (spt s) .none = some false := rfl
          simp [sptD, iso, sz 3 (by decide)]
          refine ⟨m, by omega, ?_⟩
          rw [show List.map cm t ++ [cm c] = (t ++ [c]).map cm by simp, hI]
          refine ⟨t ++ [c], (s.1, s.2, l), _, _, _, _, _, rfl, hw, cok, fun a ha => ?_, by rw [List.length_append, List.length_singleton]; omega⟩
          rcases List.mem_append.mp ha with ha | ha
          · exact hts a ha
          · rw [List.mem_singleton.mp ha]; exact hc
end M
end En

set_option Elab.async false
set_option linter.all false
set_option maxRecDepth 100000
set_option maxHeartbeats 4000000
namespace En
open PySem L2

/-! ### draws -/
def drI (L : List Int) (k many : Int) : Int := ((if 0 < L.length then (L.getD (k % (L.length : Int)).toNat 0) % 2147483647 else 0) * (742938285 + 9973 * k * k) + k * 630360016) % 2147483647 / 97 % many
theorem dr_ge (L : List Int) (k : Int) {many : Int} (h : 0 < many) : 0 ≤ drI L k many := Int.emod_nonneg _ (by omega)
theorem dr_lt (L : List Int) (k : Int) {many : Int} (h : 0 < many) : drI L k many < many := Int.emod_lt_of_pos _ h
/-- a draw, as a count -/
theorem dr_nat (L : List Int) (k : Int) {many : Nat} (h : 0 < many) : ∃ x : Nat, drI L k (many : Int) = (x : Int) ∧ x < many := by
  have h1 := dr_ge L k (many := (many : Int)) (by omega)
  have h2 := dr_lt L k (many := (many : Int)) (by omega)
  exact ⟨(drI L k (many : Int)).toNat, by omega, by omega⟩
theorem imms_mapH {α : Type} {f : α → D} (h : ∀ a, imm (f a) = true) (l : List α) : imms (l.map f) = true := by
  induction l with
  | nil => rfl
  | cons a l ih => simp [imms, h, ih]
@[simp] theorem imms_ln (l : List Ln) : imms (l.map ln) = true := imms_mapH (fun a => by simp) l
def scr (L : List Int) : D := .list (L.map .int)
@[simp] theorem imm_scr (L : List Int) : imm (scr L) = false := imm_list _
@[simp] theorem len_scr (L : List Int) : s_len [scr L] = some (false, .int (L.length : Int)) := by
  unfold scr
  rw [len_list, List.length_map]
theorem ix_int {l : List Int} {i : Int} (h0 : 0 ≤ i) (h1 : i < l.length) : semIx (scr l) (.int i) = some (.int (l.getD i.toNat 0)) := by
  obtain ⟨n, rfl⟩ := Int.eq_ofNat_of_zero_le h0
  have hn : n < l.length := by omega
  exact ix_list (by rw [List.getElem?_map, List.getElem?_eq_getElem hn]; simp [List.getD, List.getElem?_eq_getElem hn])
theorem erase_map {α β : Type} (f : α → β) : ∀ (l : List α) (i : Nat), (l.map f).eraseIdx i = (l.eraseIdx i).map f
  | [], i => rfl
  | a :: l, 0 => rfl
  | a :: l, i + 1 => by simp [erase_map f l i]
theorem erase_perm {α : Type} : ∀ {l : List α} {i : Nat} (h : i < l.length), (l[i] :: l.eraseIdx i).Perm l
  | a :: l, 0, _ => List.Perm.refl _
  | a :: l, i + 1, h => by
    have hi : i < l.length := by simpa using h
    have ih := erase_perm (l := l) (i := i) hi
    rw [List.getElem_cons_succ, List.eraseIdx_cons_succ]
    exact (List.Perm.swap a l[i] _).trans (List.Perm.cons a ih)
namespace M
def lDraw : MF := ⟨5, (.cons (.set 3 (.ki 0) false) (.cons (.ife (.cmp .Gt (.bi "len" (.cons (.v 0) .nil)) (.ki 0)) (.cons (.set 3 (.bin .Mod (.ix (.v 0) (.bin .Mod (.v 1) (.bi "len" (.cons (.v 0) .nil)))) (.ki 2147483647)) false) .nil) .nil) (.cons (.set 4 (.bin .Add (.bin .Mult (.v 3) (.bin .Add (.ki 742938285) (.bin .Mult (.bin .Mult (.ki 9973) (.v 1)) (.v 1)))) (.bin .Mult (.v 1) (.ki 630360016))) false) (.cons (.ret (.bin .Mod (.bin .FloorDiv (.bin .Mod (.v 4) (.ki 2147483647)) (.ki 97)) (.v 2))) .nil))))⟩
theorem lDraw_eq {Γ : FT} {n : Nat} (L : List Int) (k many : Int) (hk : 0 ≤ k ∧ k < 1000000) (hm : 0 < many) : runF Γ n lDraw [scr L, .int k, .int many] = .ok (.fr false (.int (drI L k many))) := by
  have main : RS (fun _ => False) (runF Γ n lDraw [scr L, .int k, .int many]) fun v => v = .fr false (.int (drI L k many)) := by
    refine rs_run ?_
    simp [lDraw, startE]
    have e1 : semBin .Mult (.int 9973) (.int k) = some (false, .int (9973 * k)) := En.mul_int (by omega)
    have e2 : semBin .Mult (.int (9973 * k)) (.int k) = some (false, .int (9973 * k * k)) := En.mul_int (by omega)
    have e3 : semBin .Mult (.int k) (.int 630360016) = some (false, .int (k * 630360016)) := En.mul_int (by omega)
    refine ⟨fun h => ?_, fun h => ?_⟩
    · have h1 := Int.emod_nonneg k (show (L.length : Int) ≠ 0 by omega)
      have h2 := Int.emod_lt_of_pos k (show (0 : Int) < (L.length : Int) by omega)
      have e0 : (0 : Int) < (L.length : Int) := by omega
      simp [En.mod_int e0, ix_int h1 h2]
      have c : ∀ x : Int, semBin .Mult (.int (x % 2147483647)) (.int (742938285 + 9973 * k * k)) = some (false, .int (x % 2147483647 * (742938285 + 9973 * k * k))) := fun x => En.mul_int (by omega)
      simp [En.mod_int (i := _) (j := 2147483647) (by decide), En.div_int (i := _) (j := 97) (by decide), e1, e2, e3, c, En.mod_int hm]
      unfold drI
      rw [if_pos (by omega)]
      simp
    · have c : semBin .Mult (.int 0) (.int (742938285 + 9973 * k * k)) = some (false, .int (0 * (742938285 + 9973 * k * k))) := En.mul_int (by omega)
      simp [En.mod_int (i := _) (j := 2147483647) (by decide), En.div_int (i := _) (j := 97) (by decide), e1, e2, e3, c, En.mod_int hm]
      simp [drI, h]
  obtain ⟨a, e, rfl⟩ := rs_eq main
  exact e
def LDrawAt (Γ : FT) : Prop := ∃ Γ' n, Γ "_law_draw" = some (3, fun ds => runF Γ' n lDraw ds)
def lTurned : MF := ⟨6, (.cons (.set 3 (.bi "list" (.cons (.v 2) .nil)) true) (.cons (.set 4 (.lst .nil) true) (.cons (.for_ (.n 5) (.r1 (.bi "len" (.cons (.v 2) .nil))) (.cons (.appPop 4 3 (.call "_law_draw" (.cons (.v 0) (.cons (.bin .Add (.v 1) (.v 5)) (.cons (.bi "len" (.cons (.v 3) .nil)) .nil))))) .nil)) (.cons (.reto 4) .nil))))⟩
theorem lTurned_ok {Γ : FT} {n : Nat} {X : Str → Prop} {K : Rv → Prop} {α : Type} (h1 : LDrawAt Γ) (enc : α → D) (L : List Int) (k : Int) (hk : 0 ≤ k ∧ k < 100000) (l : List α) (hl : l.length ≤ 1000) (q : ∀ (m : Bool) (l' : List α), l'.Perm l → K (.ow m (.list (l'.map enc)))) : RS X (runF Γ n lTurned [scr L, .int k, .list (l.map enc)]) K := by
  obtain ⟨Γ1, n1, f1⟩ := h1
  refine rs_run ?_
  have bl : semBi "list" [.list (l.map enc)] = some (true, .list (l.map enc)) := by
    unfold semBi
    rw [if_neg (by decide), if_pos rfl]
    all_goals rfl
  have r1 : rg1 (.int (l.length : Int)) = .ok (false, rngD 0 l.length) := rg1_nat _ (by omega)
  simp [lTurned, startE, bl, r1]
  obtain ⟨I, hI⟩ : ∃ I : Nat → List Sl → Prop, ∀ i e, I i e = ∃ (s5 : Sl) (m m' : Bool) (A B : List α), e = [.fr true (scr L), .fr false (.int k), .fr true (.list (l.map enc)), .ow m (.list (A.map enc)), .ow m' (.list (B.map enc)), s5] ∧ (B ++ A).Perm l ∧ B.length = i := ⟨_, fun _ _ => rfl⟩
  refine fs_for I ?_ (fun i d e hd h => ?_) (fun e h => ?_)
  · rw [hI]
    exact ⟨_, _, _, l, [], rfl, List.Perm.refl _, rfl⟩
  · rw [hI] at h
    obtain ⟨s5, m, m', A, B, rfl, hp, hb⟩ := h
    obtain ⟨hi, rfl⟩ := rngD_at hd
    have hi' : i < l.length := by simpa using hi
    have pl := hp.length_eq
    rw [List.length_append] at pl
    have hA : 0 < A.length := by omega
    obtain ⟨x, ex, hx⟩ := dr_nat L (k + i) hA
    have sx : sm (x : Int) = true := sm_nat (by omega)
    have few : B.length < sizeLine := slt (by omega)
    simp [e_call f1, lDraw_eq L (k + i) A.length (by omega) (by omega), ex, sx, ixN_nat hx, few, List.getElem?_eq_getElem hx]
    rw [erase_map, show B.map enc ++ [enc A[x]] = (B ++ [A[x]]).map enc by simp, hI]
    refine ⟨_, _, _, A.eraseIdx x, B ++ [A[x]], rfl, ?_, by rw [List.length_append, hb, List.length_singleton]⟩
    rw [List.append_assoc]
    exact (List.Perm.append_left B (erase_perm hx)).trans hp
  · rw [hI] at h
    obtain ⟨s5, m, m', A, B, rfl, hp, hb⟩ := h
    have pl := hp.length_eq
    rw [List.length_append] at pl
    have hA : A = [] := by
      rw [← List.length_eq_zero_iff]
      have : B.length = l.length := by simpa [rngD] using hb
      omega
    subst hA
    rw [List.append_nil] at hp
    simp
    exact q _ _ hp
def lNames : MF := ⟨9, (.cons (.set 3 (.ks "abcdefghijklmnopqrstuvwxyz") false) (.cons (.set 4 (.call "_law_draw" (.cons (.v 0) (.cons (.v 1) (.cons (.ki 26) .nil)))) false) (.cons (.ife (.cmp .Eq (.call "_law_draw" (.cons (.v 0) (.cons (.bin .Add (.v 1) (.ki 1)) (.cons (.ki 5) .nil)))) (.ki 0)) (.cons (.ret (.lc (.n 6) (.r1 (.v 2)) .no (.bin .Mult (.ix (.v 3) (.v 4)) (.bin .Add (.ki 1) (.v 6))))) .nil) .nil) (.cons (.set 5 (.ks "") false) (.cons (.for_ (.n 6) (.r1 (.call "_law_draw" (.cons (.v 0) (.cons (.bin .Add (.v 1) (.ki 2)) (.cons (.ki 8) .nil))))) (.cons (.set 5 (.bin .Add (.v 5) (.ix (.v 3) (.call "_law_draw" (.cons (.v 0) (.cons (.bin .Add (.bin .Add (.v 1) (.ki 40)) (.v 6)) (.cons (.ki 26) .nil)))))) false) .nil)) (.cons (.set 7 (.call "_law_draw" (.cons (.v 0) (.cons (.bin .Add (.v 1) (.ki 3)) (.cons (.bin .Add (.bi "len" (.cons (.v 5) .nil)) (.ki 1)) .nil)))) false) (.cons (.set 8 (.ix (.lst (.cons (.ki 1) (.cons (.ki 7) (.cons (.ki 25) (.cons (.ki 11) .nil))))) (.call "_law_draw" (.cons (.v 0) (.cons (.bin .Add (.v 1) (.ki 1)) (.cons (.ki 4) .nil))))) false) (.cons (.ret (.lc (.n 6) (.r1 (.v 2)) .no (.bin .Add (.bin .Add (.sl (.v 5) .no (.so (.v 7))) (.ix (.v 3) (.bin .Mod (.bin .Add (.v 4) (.bin .Mult (.v 8) (.v 6))) (.ki 26)))) (.sl (.v 5) (.so (.v 7)) .no)))) .nil))))))))⟩
theorem lNames_ok {Γ : FT} {n : Nat} {X : Str → Prop} {K : Rv → Prop} (h1 : LDrawAt Γ) (L : List Int) (k : Int) (hk : 0 ≤ k ∧ k < 100000) (many : Nat) (hm : many ≤ 26) (q : ∀ ds : List Tx, ds.length = many → (∀ d ∈ ds, Sm d ∧ d.length ≤ 40) → ds.Nodup → K (.ow false (.list (ds.map tx)))) : RS X (runF Γ n lNames [scr L, .int k, .int (many : Int)]) K := by
  obtain ⟨Γ1, n1, f1⟩ := h1
  have r1 : rg1 (.int (many : Int)) = .ok (false, rngD 0 many) := rg1_nat _ (by omega)
  refine rs_run ?_
  obtain ⟨st, es, hs⟩ := dr_nat L k (many := 26) (by omega)
  have es : drI L k 26 = (st : Int) := es
  have c26 : (26 : Int) > 0 := by decide
  simp [lNames, startE, e_call f1, lDraw_eq L k 26 (by omega) (by omega), lDraw_eq L (k + 1) 5 (by omega) (by omega), lDraw_eq L (k + 2) 8 (by omega) (by omega), lDraw_eq L (k + 1) 4 (by omega) (by omega), es, r1]
  refine ⟨fun _ => ?_, fun _ => ?_⟩
  · obtain ⟨c, hc, hc2, ec⟩ := ix_abc2 (st : Int) (by omega) (by omega)
    refine rs_lc (fun i m L => m = false ∧ ∃ ds : List Tx, L = ds.map tx ∧ ds.length = i ∧ (∀ d ∈ ds, Sm d ∧ d.length ≤ i) ∧ ds.Nodup) ⟨rfl, [], rfl, rfl, by simp, by simp⟩ (fun i d m L hd' h => ?_) (fun m L h => ?_)
    · obtain ⟨rfl, ds, rfl, hl, hd, hn⟩ := h
      obtain ⟨hi, rfl⟩ := rngD_at hd'
      have ml := mul_tx (a := [c]) (n := 1 + i) (sz _ (by simp; omega)) (by omega)
      rw [show ((1 + i : Nat) : Int) = 1 + (i : Int) by omega, show (List.replicate (1 + i) [c]).flatten = List.replicate (1 + i) c by simp] at ml
      simp [lcT, ec, ml]
      refine ⟨ds ++ [List.replicate (1 + i) c], by simp, by simp [hl], fun d h => ?_, nd_app hn fun h => ?_⟩
      · rcases List.mem_append.mp h with h | h
        · exact ⟨(hd d h).1, by have := (hd d h).2; omega⟩
        · rw [List.mem_singleton.mp h]
          exact ⟨fun x hx => by rw [List.eq_of_mem_replicate hx]; exact hc, by simp; omega⟩
      · have := (hd _ h).2
        simp at this
        omega
    · obtain ⟨rfl, ds, rfl, hl, hd, hn⟩ := h
      have hl : ds.length = many := by simpa [rngD] using hl
      refine ⟨sz _ (by simp [rngD]; omega), ?_⟩
      simp
      exact q ds hl (fun d h => ⟨(hd d h).1, by have := (hd d h).2; simp [rngD] at this; omega⟩) hn
  · have g8 := dr_ge L (k + 2) (many := 8) (by decide)
    have l8 := dr_lt L (k + 2) (many := 8) (by decide)
    rw [rg1_int (drI L (k + 2) 8) (by omega)]
    simp
    obtain ⟨I, hI⟩ : ∃ I : Nat → List Sl → Prop, ∀ i e, I i e = ∃ (s6 : Sl) (b : Tx), e = [.fr true (scr L), .fr false (.int k), .fr false (.int (many : Int)), .fr false (tx abcT), .fr false (.int (st : Int)), .fr false (tx b), s6, .no, .no] ∧ b.length = i ∧ Sm b := ⟨_, fun _ _ => rfl⟩
    refine fs_for I ?_ (fun i d e hd h => ?_) (fun e h => ?_)
    · rw [hI]
      exact ⟨_, [], rfl, rfl, fun c h => nomatch h⟩
    · rw [hI] at h
      obtain ⟨s6, b, rfl, hb, sb⟩ := h
      obtain ⟨hi, rfl⟩ := rngD_at hd
      have hi' : i < 8 := by
        have : (rngD 0 (drI L (k + 2) 8).toNat).length = (drI L (k + 2) 8).toNat := by simp [rngD]
        omega
      obtain ⟨c, hc, hc2, ec⟩ := ix_abc2 (drI L (k + 40 + i) 26) (dr_ge _ _ (by decide)) (dr_lt _ _ (by decide))
      simp [e_call f1, lDraw_eq L (k + 40 + i) 26 (by omega) (by omega), ec, add_tx (a := b) (b := [c]) (sz _ (by simp; omega))]
      rw [hI]
      refine ⟨_, _, rfl, by simp [hb], fun x hx => ?_⟩
      rcases List.mem_append.mp hx with hx | hx
      · exact sb x hx
      · rw [List.mem_singleton.mp hx]; exact hc
    · rw [hI] at h
      obtain ⟨s6, b, rfl, hb, sb⟩ := h
      have hb8 : b.length ≤ 8 := by
        have : (rngD 0 (drI L (k + 2) 8).toNat).length = (drI L (k + 2) 8).toNat := by simp [rngD]
        omega
      obtain ⟨p, ep, hp⟩ := dr_nat L (k + 3) (many := b.length + 1) (by omega)
      rw [show ((b.length + 1 : Nat) : Int) = (b.length : Int) + 1 by omega] at ep
      obtain ⟨w, hw, ew⟩ : ∃ w : Int, (w = 1 ∨ w = 7 ∨ w = 25 ∨ w = 11) ∧ semIx (.list [.int 1, .int 7, .int 25, .int 11]) (.int (drI L (k + 1) 4)) = some (.int w) := by
        obtain ⟨x, ex, hx⟩ := dr_nat L (k + 1) (many := 4) (by omega)
        have ex : drI L (k + 1) 4 = (x : Int) := ex
        rw [ex]
        have : x = 0 ∨ x = 1 ∨ x = 2 ∨ x = 3 := by omega
        rcases this with rfl | rfl | rfl | rfl
        · exact ⟨1, .inl rfl, rfl⟩
        · exact ⟨7, .inr (.inl rfl), rfl⟩
        · exact ⟨25, .inr (.inr (.inl rfl)), rfl⟩
        · exact ⟨11, .inr (.inr (.inr rfl)), rfl⟩
      have cu1 := cut_to (l := b) (k := p)
      have cu2 := cut_from (l := b) (k := p)
      simp [e_call f1, len_tx (l := b) (sz _ (by omega)), lDraw_eq L (k + 3) ((b.length : Int) + 1) (by omega) (by omega), lDraw_eq L (k + 1) 4 (by omega) (by omega), ep, sz 4 (by decide), ew, r1]
      have l1 : (b.take p).length ≤ 8 := by rw [List.length_take]; omega
      have l2 : (b.drop p).length ≤ 8 := by rw [List.length_drop]; omega
      have lp : (b.take p).length = p := by rw [List.length_take]; omega
      have s1 : Sm (b.take p) := sm_take sb
      have s2 : Sm (b.drop p) := fun x hx => sb x (List.mem_of_mem_drop hx)
      have sl1 := sl_tx (l := b) (sz _ (by omega)) none (some (p : Int))
      have sl2 := sl_tx (l := b) (sz _ (by omega)) (some (p : Int)) none
      rw [cu1] at sl1
      rw [cu2] at sl2
      generalize b.take p = b1 at *
      generalize b.drop p = b2 at *
      refine rs_lc (fun i m L => m = false ∧ ∃ ds : List Tx, L = ds.map tx ∧ ds.length = i ∧ (∀ d ∈ ds, Sm d ∧ d.length ≤ 40) ∧ ds.Nodup ∧ ∀ d ∈ ds, ∃ j y, j < i ∧ abcT[(((st : Int) + w * (j : Int)) % 26).toNat]? = some y ∧ d = b1 ++ y :: b2) ⟨rfl, [], rfl, rfl, by simp, by simp, by simp⟩ (fun i d m L hd' h => ?_) (fun m L h => ?_)
      · obtain ⟨rfl, ds, rfl, hl, hd, hn, hle⟩ := h
        obtain ⟨hi, rfl⟩ := rngD_at hd'
        have hi' : i < many := by simpa [rngD] using hi
        obtain ⟨y, hy, hy2, e⟩ := ix_abc2 (((st : Int) + w * (i : Int)) % 26) (by omega) (by omega)
        have mw : semBin .Mult (.int w) (.int (i : Int)) = some (false, .int (w * (i : Int))) := En.mul_int (by rcases hw with rfl | rfl | rfl | rfl <;> omega)
        simp [lcT, mw, En.mod_int (i := (st : Int) + w * (i : Int)) (j := 26) (by decide), e, sl1, sl2, add_tx (a := b1) (b := [y]) (sz _ (by simp; omega)), add_tx (a := b1 ++ [y]) (b := b2) (sz _ (by simp; omega))]
        refine ⟨ds ++ [b1 ++ y :: b2], by simp, by simp [hl], fun d h => ?_, nd_app hn fun h => ?_, fun d h => ?_⟩
        · rcases List.mem_append.mp h with h | h
          · exact hd d h
          · rw [List.mem_singleton.mp h]
            refine ⟨fun x hx => ?_, by simp; omega⟩
            rcases List.mem_append.mp hx with hx | hx
            · exact s1 x hx
            · rcases List.mem_cons.mp hx with hx | hx
              · rw [hx]; exact hy
              · exact s2 x hx
        · obtain ⟨j, y', hj, hy', he⟩ := hle _ h
          have e3 : y = y' := by
            have := List.append_cancel_left he
            cases this
            rfl
          subst e3
          have nd : abcT.Nodup := by unfold abcT; decide
          have e4 := (List.getElem?_inj (List.getElem?_eq_some_iff.mp hy2).1 nd).mp (hy2.trans hy'.symm)
          rcases hw with rfl | rfl | rfl | rfl <;> omega
        · rcases List.mem_append.mp h with h | h
          · obtain ⟨j, y', hj, r⟩ := hle d h
            exact ⟨j, by omega, y', r⟩
          · exact ⟨i, by omega, y, hy2, List.mem_singleton.mp h⟩
      · obtain ⟨rfl, ds, rfl, hl, hd, hn, _⟩ := h
        have hl : ds.length = many := by simpa [rngD] using hl
        refine ⟨sz _ (by simp [rngD]; omega), ?_⟩
        simp
        exact q ds hl hd hn
end M
end En

set_option Elab.async false
set_option linter.all false
set_option maxRecDepth 100000
set_option maxHeartbeats 4000000
namespace En
open PySem L2

/-! ### how a letter fares -/
def faredD : Fin2 → D
  | .out h d l => finD (.out h d l)
  | .ring _ => .tuple [tx ringT]
  | _ => .tuple [tx lostT]
theorem ne_do : ¬ dropT = outT := by decide
theorem ne_dr : ¬ dropT = ringT := by decide
theorem ne_lo : ¬ lostT = outT := by decide
theorem ne_lr : ¬ lostT = ringT := by decide
theorem ne_ro : ¬ ringT = outT := by decide
@[simp] theorem mk_fin (m : Bool) (e : Fin2) : mk m false (finD e) = .fr m (finD e) := by cases e <;> exact mk_tup _ _
@[simp] theorem walk_1 (r : List Cm × Fin2) : semIx (walkD r) (.int 1) = some (finD r.2) := tup_1 _ _ _
@[simp] theorem imm_walk (r : List Cm × Fin2) : imm (walkD r) = false := by simp [walkD]
/-! plain data -/
theorem pd_tup {n : Nat} {ds : List D} (hl : ds.length ≤ 16777216) (h : ∀ d ∈ ds, Pd n d) : Pd (n + 1) (.tuple ds) := .tup (sz _ hl) h
theorem pd_list {α : Type} {n : Nat} {f : α → D} {l : List α} (hl : l.length ≤ 16777216) (h : ∀ a ∈ l, Pd n (f a)) : Pd (n + 1) (.list (l.map f)) := Pd.map (sz _ hl) h
theorem pd_rl (r : Ru) : Pd 1 (rl r) := pd_tup (by simp) fun d hd => by
  simp only [List.mem_cons, List.not_mem_nil, or_false] at hd
  rcases hd with rfl | rfl | rfl <;> exact .tx _
theorem pd_wy (r : Wy) : Pd 1 (wy r) := pd_tup (by simp) fun d hd => by
  simp only [List.mem_cons, List.not_mem_nil, or_false] at hd
  rcases hd with rfl | rfl <;> exact .tx _
theorem pd_fl (r : Fd) : Pd 1 (fl r) := pd_tup (by simp) fun d hd => by
  simp only [List.mem_cons, List.not_mem_nil, or_false] at hd
  rcases hd with rfl | rfl
  · exact .tx _
  · exact .int _
theorem pd_spt (r : Spt) : Pd 1 (spt r) := pd_tup (by simp) fun d hd => by
  simp only [List.mem_cons, List.not_mem_nil, or_false] at hd
  rcases hd with rfl | rfl <;> exact .tx _
theorem pd_ln (r : Ln) : Pd 2 (ln r) := pd_tup (by simp) fun d hd => by
  simp only [List.mem_cons, List.not_mem_nil, or_false] at hd
  rcases hd with rfl | rfl <;> exact pd_spt _
theorem pd_cm (r : Cm) : Pd 1 (cm r) := pd_tup (by simp) fun d hd => by
  simp only [List.mem_cons, List.not_mem_nil, or_false] at hd
  rcases hd with rfl | rfl | rfl <;> exact .tx _
theorem pd_fin (e : Fin2) : Pd 1 (finD e) := by
  cases e <;> refine pd_tup (by simp) fun d hd => ?_ <;> simp only [List.mem_cons, List.not_mem_nil, or_false] at hd
  · rcases hd with rfl | rfl | rfl | rfl
    · exact .tx _
    · exact .tx _
    · exact .tx _
    · exact .int _
  · rcases hd with rfl | rfl | rfl <;> exact .tx _
  · rcases hd with rfl | rfl | rfl | rfl <;> exact .tx _
  · rcases hd with rfl | rfl <;> exact .tx _
theorem pd_fared (e : Fin2) : Pd 1 (faredD e) := by
  cases e
  case out h d l => exact pd_fin (.out h d l)
  all_goals
    refine pd_tup (by simp) fun d hd => ?_
    simp only [List.mem_cons, List.not_mem_nil, or_false] at hd
    rw [hd]
    exact .tx _
theorem pd_walk {r : List Cm × Fin2} (h : r.1.length ≤ 16777216) : Pd 3 (walkD r) := pd_tup (by simp) fun d hd => by
  simp only [List.mem_cons, List.not_mem_nil, or_false] at hd
  rcases hd with rfl | rfl
  · exact pd_list h fun c _ => pd_cm c
  · exact (pd_fin _).mono (by decide)
theorem pd_ho {w b : Nat} {h : Ho} (ok : HoOk w b h) : Pd 5 (ho h) := pd_tup (by simp) fun d hd => by
  simp only [List.mem_cons, List.not_mem_nil, or_false] at hd
  rcases hd with rfl | rfl
  · refine pd_list (by have := ok.few; omega) fun g hg => pd_tup (by simp) fun d hd => ?_
    simp only [List.mem_cons, List.not_mem_nil, or_false] at hd
    rcases hd with rfl | rfl
    · exact .tx _
    · exact pd_list (by have := (ok.gate g hg).2.1; omega) fun r _ => pd_rl r
  · exact (pd_list (n := 1) (by have := ok.few; omega) fun v _ => pd_wy v).mono (by decide)
theorem pd_nt {N : Nt} {sp : Nat × Nat} {w : Nat} (hN : NtOk N sp w) : Pd 8 (nt N) := pd_tup (by simp) fun d hd => by
  simp only [List.mem_cons, List.not_mem_nil, or_false] at hd
  rcases hd with rfl | rfl | rfl
  · exact (pd_list (n := 1) (by have := hN.lay.1; omega) fun p _ => pd_fl p).mono (by decide)
  · refine pd_list (n := 6) (by have := hN.few; omega) fun h hh => pd_tup (by simp) fun d hd => ?_
    simp only [List.mem_cons, List.not_mem_nil, or_false] at hd
    rcases hd with rfl | rfl
    · exact .tx _
    · exact pd_ho (hN.house h hh).2
  · exact (pd_list (n := 2) (by have := hN.few; omega) fun p _ => pd_ln p).mono (by decide)
/-! ### nets, turned about -/
theorem rngD_len (n : Nat) : (rngD 0 n).length = n := by simp [rngD]
/-- signs by draws -/
theorem lc_rng {P : Nat → Prop} {X : Str → Prop} {f : D → R (Option (Bool × D))} {n : Nat} {K : Bool × List D → Prop} (hf : ∀ i : Nat, i < n → RS X (f (.int (i : Int))) fun o => ∃ c, P c ∧ o = some (false, tx [c])) (q : ∀ b : Tx, b.length = n → (∀ c ∈ b, P c) → K (false, b.map fun c => tx [c])) : RS X (lcR f (rngD 0 n)) K := by
  refine rs_lc (fun i m L => m = false ∧ ∃ b : Tx, L = (b.map fun c => tx [c]) ∧ b.length = i ∧ ∀ c ∈ b, P c) ⟨rfl, [], rfl, rfl, by simp⟩ (fun i d m L hd' h => ?_) (fun m L h => ?_)
  · obtain ⟨rfl, b, rfl, hl, hb⟩ := h
    obtain ⟨hi, rfl⟩ := rngD_at hd'
    have hi' : i < n := by simpa [rngD] using hi
    rw [Int.zero_add]
    refine rs_imp (hf i hi') ?_
    rintro _ ⟨c, hc, rfl⟩
    exact ⟨rfl, b ++ [c], by simp, by simp [hl], M.mem_app hb hc⟩
  · obtain ⟨rfl, b, rfl, hl, hb⟩ := h
    rw [rngD_len] at hl
    exact q b hl hb
namespace M
def fared : MF := ⟨1, (.cons (.ife (.cmp .Eq (.ix (.v 0) (.ki 0)) (.ks "out")) (.cons (.ret (.v 0)) .nil) .nil) (.cons (.ife (.cmp .Eq (.ix (.v 0) (.ki 0)) (.ks "ring")) (.cons (.ret (.tup (.cons (.ks "ring") .nil))) .nil) .nil) (.cons (.ret (.tup (.cons (.ks "lost") .nil))) .nil)))⟩
theorem fared_eq {Γ : FT} {n : Nat} (e : Fin2) : runF Γ n fared [finD e] = .ok (.fr false (faredD e)) := by
  have main : RS (fun _ => False) (runF Γ n fared [finD e]) fun v => v = .fr false (faredD e) := by
    refine rs_run ?_
    cases e <;> simp [fared, startE, finD, faredD, ne_do, ne_dr, ne_lo, ne_lr, ne_ro, sz 1 (by decide)]
  obtain ⟨a, e, rfl⟩ := rs_eq main
  exact e
def NetWalkAt (Γ : FT) : Prop := ∃ Γ' z z1 z2 z3, NetTiedAt Γ' z1 z2 ∧ HouseNamedAt Γ' z3 ∧ LayoutWidthAt Γ' ∧ IsLetterAt Γ' ∧ HouseDoesAt Γ' ∧ Γ "net_walk" = some (4, fun ds => runF Γ' 100000 (netWalkW z) ds)
def netFared : MF := ⟨5, (.cons (.set 4 (.ix (.call "net_walk" (.cons (.v 0) (.cons (.v 1) (.cons (.v 2) (.cons (.v 3) .nil))))) (.ki 1)) false) (.cons (.ife (.cmp .Eq (.ix (.v 4) (.ki 0)) (.ks "out")) (.cons (.ret (.v 4)) .nil) .nil) (.cons (.ife (.cmp .Eq (.ix (.v 4) (.ki 0)) (.ks "ring")) (.cons (.ret (.tup (.cons (.ks "ring") .nil))) .nil) .nil) (.cons (.ret (.tup (.cons (.ks "lost") .nil))) .nil))))⟩
theorem netFared_ok {Γ : FT} {n : Nat} {X : Str → Prop} {K : Rv → Prop} (hw : NetWalkAt Γ) {N : Nt} {sp : Nat × Nat} {w : Nat} (hN : NtOk N sp w) {c : Cm} (hc : CmOk N w c) {k : Nat} (hk : k ≤ 90001) {r : List Cm × Fin2} (e : walkN sp N k [] c = some r) (q : K (.fr false (faredD r.2))) : RS X (runF Γ n netFared [nt N, tx c.1, tx c.2.1, tx c.2.2]) K := by
  obtain ⟨Γ1, z, z1, z2, z3, h1, h2, h3, h4, h5, f1⟩ := hw
  refine rs_run ?_
  simp [netFared, startE, e_call f1]
  refine netWalk_ok (Γ := Γ1) h1 h2 h3 h4 h5 hN hc hk e ?_
  simp
  clear e
  revert q
  obtain ⟨t, e⟩ := r
  cases e <;> intro q <;> simp [finD, ne_do, ne_dr, ne_lo, ne_lr, ne_ro, sz 1 (by decide)] <;> exact q
end M
end En

set_option Elab.async false
set_option linter.all false
set_option maxRecDepth 100000
set_option maxHeartbeats 4000000
namespace K39
open PySem PySem.Spec PyProof.Rows L2 En
def topS (i : Nat) : Stmt := PySem.Challenge.pw_throng_k39_long_walks_and_rings.main.body.getD i (.Pass ⟨0, 0, 0, 0⟩)
-- 0 _law_draw ['script', 'k', 'many', 'cell', 'mixed']
abbrev st0 : Stmt := topS 30
def nm0 : List Str := ["script", "k", "many", "cell", "mixed"]
def mf0 : MF := M.lDraw
theorem fs0 : FnScope nm0 ["script", "k", "many"] (defScope st0) := ⟨rfl, rfl, rfl, by decide +kernel, rfl, by decide +kernel, by decide +kernel⟩
theorem ok0 : (decide (mf0.slots = nm0.length) && decide ((["script", "k", "many"] : List Str).length ≤ nm0.length) && okSs (exL []) nm0 (defScope st0) mf0.body (defBody st0)) = true := by decide +kernel
-- 1 _law_turned ['script', 'k', 'things', 'left', 'found', 'j']
abbrev st1 : Stmt := topS 34
def nm1 : List Str := ["script", "k", "things", "left", "found", "j"]
def mf1 : MF := M.lTurned
theorem fs1 : FnScope nm1 ["script", "k", "things"] (defScope st1) := ⟨rfl, rfl, rfl, by decide +kernel, rfl, by decide +kernel, by decide +kernel⟩
theorem ok1 : (decide (mf1.slots = nm1.length) && decide ((["script", "k", "things"] : List Str).length ≤ nm1.length) && okSs (exL []) nm1 (defScope st1) mf1.body (defBody st1)) = true := by decide +kernel
-- 2 _law_names ['script', 'k', 'many', 'letters', 'start', 'body', 'j', 'at', 'step']
abbrev st2 : Stmt := topS 31
def nm2 : List Str := ["script", "k", "many", "letters", "start", "body", "j", "at", "step"]
def mf2 : MF := M.lNames
theorem fs2 : FnScope nm2 ["script", "k", "many"] (defScope st2) := ⟨rfl, rfl, rfl, by decide +kernel, rfl, by decide +kernel, by decide +kernel⟩
theorem ok2 : (decide (mf2.slots = nm2.length) && decide ((["script", "k", "many"] : List Str).length ≤ nm2.length) && okSs (exL []) nm2 (defScope st2) mf2.body (defBody st2)) = true := by decide +kernel
-- 3 _law_width ['layout', 'name', 'size']
abbrev st3 : Stmt := topS 32
def nm3 : List Str := ["layout", "name", "size"]
def mf3 : MF := M.layoutWidth
theorem fs3 : FnScope nm3 ["layout"] (defScope st3) := ⟨rfl, rfl, rfl, by decide +kernel, rfl, by decide +kernel, by decide +kernel⟩
theorem ok3 : (decide (mf3.slots = nm3.length) && decide ((["layout"] : List Str).length ≤ nm3.length) && okSs (exL []) nm3 (defScope st3) mf3.body (defBody st3)) = true := by decide +kernel
-- 4 _law_span ['layout', 'first', 'name', 'size']
abbrev st4 : Stmt := topS 33
def nm4 : List Str := ["layout", "first", "name", "size"]
def mf4 : MF := M.lSpan
theorem fs4 : FnScope nm4 ["layout"] (defScope st4) := ⟨rfl, rfl, rfl, by decide +kernel, rfl, by decide +kernel, by decide +kernel⟩
theorem ok4 : (decide (mf4.slots = nm4.length) && decide ((["layout"] : List Str).length ≤ nm4.length) && okSs (exL []) nm4 (defScope st4) mf4.body (defBody st4)) = true := by decide +kernel
-- 5 _law_row_at ['width', 'places', 'signs', 'row', 'place', 'sign']
abbrev st5 : Stmt := topS 35
def nm5 : List Str := ["width", "places", "signs", "row", "place", "sign"]
def mf5 : MF := ⟨6, (.cons (.set 3 (.bin .Mult (.lst (.cons (.ks "-") .nil)) (.v 0)) true) (.cons (.for_ (.t [4, 5]) (.zip (.v 1) (.v 2)) (.cons (.put 3 (.v 4) (.v 5)) .nil)) (.frz 3 (.cons (.ret (.mt (.ks "") "join" (.cons (.v 3) .nil))) .nil))))⟩
theorem fs5 : FnScope nm5 ["width", "places", "signs"] (defScope st5) := ⟨rfl, rfl, rfl, by decide +kernel, rfl, by decide +kernel, by decide +kernel⟩
theorem ok5 : (decide (mf5.slots = nm5.length) && decide ((["width", "places", "signs"] : List Str).length ≤ nm5.length) && okSs (exL []) nm5 (defScope st5) mf5.body (defBody st5)) = true := by decide +kernel
-- 6 _law_counting ['script', 'width', 'places', 'goal', 'way', 'most', 'rules', 'at', 'row', 'value', 'j']
abbrev st6 : Stmt := topS 36
def nm6 : List Str := ["script", "width", "places", "goal", "way", "most", "rules", "at", "row", "value", "j"]
def mf6 : MF := ⟨11, (.cons (.set 5 (.bi "len" (.cons (.v 2) .nil)) false) (.cons (.set 6 (.lst (.cons (.tup (.cons (.call "_law_row_at" (.cons (.v 1) (.cons (.v 2) (.cons (.bin .Mult (.ks "1") (.v 5)) .nil)))) (.cons (.ks "pass") (.cons (.call "_law_row_at" (.cons (.v 1) (.cons (.v 2) (.cons (.bin .Mult (.ks "0") (.v 5)) .nil)))) .nil)))) .nil)) true) (.cons (.for_ (.n 7) (.r1 (.v 5)) (.cons (.set 8 (.call "_law_row_at" (.cons (.v 1) (.cons (.v 2) (.cons (.bin .Add (.bin .Mult (.ks "1") (.v 7)) (.ks "0")) .nil)))) false) (.cons (.app 6 (.tup (.cons (.v 8) (.cons (.ks "pass") (.cons (.call "_law_row_at" (.cons (.v 1) (.cons (.v 2) (.cons (.bin .Add (.bin .Mult (.ks "0") (.v 7)) (.ks "1")) .nil)))) .nil))))) .nil))) (.cons (.set 6 (.call "_law_turned" (.cons (.v 0) (.cons (.ki 40) (.cons (.v 6) .nil)))) true) (.cons (.set 9 (.mt (.ks "") "join" (.cons (.lc (.n 10) (.r1 (.v 5)) .no (.ix (.ks "01") (.call "_law_draw" (.cons (.v 0) (.cons (.bin .Add (.ki 50) (.v 10)) (.cons (.ki 2) .nil)))))) .nil)) false) (.cons (.set 8 (.call "_law_row_at" (.cons (.v 1) (.cons (.v 2) (.cons (.v 9) .nil)))) false) (.cons (.ife (.cmp .Eq (.v 4) (.ki 0)) (.cons (.ins 6 (.ki 0) (.tup (.cons (.v 8) (.cons (.ks "drop") (.cons (.bin .Mult (.ks "-") (.v 1)) .nil))))) .nil) (.cons (.ife (.cmp .Lt (.v 4) (.ki 3)) (.cons (.ins 6 (.ki 0) (.tup (.cons (.v 8) (.cons (.ks "pass") (.cons (.call "_law_row_at" (.cons (.v 1) (.cons (.lst (.cons (.v 3) .nil)) (.cons (.ks "1") .nil)))) .nil))))) .nil) .nil) .nil)) (.cons (.reto 6) .nil))))))))⟩
theorem fs6 : FnScope nm6 ["script", "width", "places", "goal", "way"] (defScope st6) := ⟨rfl, rfl, rfl, by decide +kernel, rfl, by decide +kernel, by decide +kernel⟩
theorem ok6 : (decide (mf6.slots = nm6.length) && decide ((["script", "width", "places", "goal", "way"] : List Str).length ≤ nm6.length) && okSs (exL []) nm6 (defScope st6) mf6.body (defBody st6)) = true := by decide +kernel
-- 7 _law_ring ['script', 'layout', 'doors', 'names', 'width', 'first', 'behind', 'way', 'others', 'rules', 'free', 'ways', 'gates', 'many', 'ahead', 'houses', 'lines', 'h', 'place']
abbrev st7 : Stmt := topS 37
def nm7 : List Str := ["script", "layout", "doors", "names", "width", "first", "behind", "way", "others", "rules", "free", "ways", "gates", "many", "ahead", "houses", "lines", "h", "place"]
def mf7 : MF := ⟨19, (.cons (.set 4 (.call "_law_width" (.cons (.v 1) .nil)) false) (.cons (.unp [5, 6] (.call "_law_span" (.cons (.v 1) .nil))) (.cons (.set 7 (.bi "min" (.cons (.ki 3) (.cons (.call "_law_draw" (.cons (.v 0) (.cons (.ki 10) (.cons (.ki 6) .nil)))) .nil))) false) (.cons (.set 8 (.call "_law_turned" (.cons (.v 0) (.cons (.ki 60) (.cons (.lc (.n 18) (.r1 (.v 4)) (.so (.bop false (.cons (.cmp .Lt (.v 18) (.v 5)) (.cons (.cmp .GtE (.v 18) (.v 6)) .nil)))) (.v 18)) .nil)))) false) (.cons (.set 9 (.call "_law_counting" (.cons (.v 0) (.cons (.v 4) (.cons (.sl (.v 8) .no (.so (.bin .Add (.ki 1) (.call "_law_draw" (.cons (.v 0) (.cons (.ki 11) (.cons (.bin .Add (.ki 4) (.bi "int" (.cons (.cmp .Eq (.bin .Mod (.v 7) (.ki 3)) (.ki 0)) .nil))) .nil))))))) (.cons (.v 5) (.cons (.v 7) .nil)))))) false) (.cons (.set 10 (.lst (.cons (.tup (.cons (.bin .Mult (.ks "-") (.v 4)) (.cons (.ks "pass") (.cons (.bin .Mult (.ks "-") (.v 4)) .nil)))) .nil)) false) (.cons (.set 11 (.lst (.cons (.tup (.cons (.ks "0") (.cons (.ix (.v 2) (.ki 1)) .nil))) .nil)) true) (.cons (.ife (.cmp .Eq (.v 7) (.ki 1)) (.cons (.app 11 (.tup (.cons (.ks "1") (.cons (.ix (.v 2) (.ki 3)) .nil)))) .nil) .nil) (.frz 11 (.cons (.set 12 (.lst (.cons (.tup (.cons (.ix (.v 2) (.ki 0)) (.cons (.v 9) .nil))) (.cons (.tup (.cons (.ix (.v 2) (.ki 1)) (.cons (.lst .nil) .nil))) (.cons (.tup (.cons (.ix (.v 2) (.ki 2)) (.cons (.v 10) .nil))) (.cons (.tup (.cons (.ix (.v 2) (.ki 3)) (.cons (.v 10) .nil))) .nil))))) false) (.cons (.set 13 (.bin .Add (.ki 1) (.call "_law_draw" (.cons (.v 0) (.cons (.ki 12) (.cons (.ki 7) .nil))))) false) (.cons (.set 14 (.call "_law_draw" (.cons (.v 0) (.cons (.ki 13) (.cons (.ki 3) .nil)))) false) (.cons (.set 15 (.lst (.cons (.tup (.cons (.ix (.v 3) (.ki 0)) (.cons (.tup (.cons (.call "_law_turned" (.cons (.v 0) (.cons (.ki 110) (.cons (.v 12) .nil)))) (.cons (.call "_law_turned" (.cons (.v 0) (.cons (.ki 114) (.cons (.v 11) .nil)))) .nil))) .nil))) .nil)) true) (.cons (.set 16 (.lst (.cons (.tup (.cons (.tup (.cons (.ix (.v 3) (.bin .Sub (.v 13) (.ki 1))) (.cons (.ix (.v 2) (.ki 1)) .nil))) (.cons (.tup (.cons (.ix (.v 3) (.ki 0)) (.cons (.ix (.v 2) (.ki 0)) .nil))) .nil))) .nil)) true) (.cons (.for_ (.n 17) (.r2 (.ki 1) (.bin .Add (.v 13) (.v 14))) (.cons (.app 15 (.tup (.cons (.ix (.v 3) (.v 17)) (.cons (.tup (.cons (.lst (.cons (.tup (.cons (.ix (.v 2) (.ki 0)) (.cons (.bi "list" (.cons (.v 10) .nil)) .nil))) (.cons (.tup (.cons (.ix (.v 2) (.ki 1)) (.cons (.lst .nil) .nil))) .nil))) (.cons (.lst (.cons (.tup (.cons (.ks "") (.cons (.ix (.v 2) (.ki 1)) .nil))) .nil)) .nil))) .nil)))) (.cons (.ife (.cmp .Lt (.v 17) (.v 13)) (.cons (.app 16 (.tup (.cons (.tup (.cons (.ix (.v 3) (.bin .Sub (.v 17) (.ki 1))) (.cons (.ix (.v 2) (.ki 1)) .nil))) (.cons (.tup (.cons (.ix (.v 3) (.v 17)) (.cons (.ix (.v 2) (.ki 0)) .nil))) .nil)))) .nil) (.cons (.ife (.cmp .Eq (.v 17) (.v 13)) (.cons (.app 16 (.tup (.cons (.tup (.cons (.ix (.v 3) (.ki 0)) (.cons (.ix (.v 2) (.ki 2)) .nil))) (.cons (.tup (.cons (.ix (.v 3) (.v 17)) (.cons (.ix (.v 2) (.ki 1)) .nil))) .nil)))) .nil) (.cons (.app 16 (.tup (.cons (.tup (.cons (.ix (.v 3) (.bin .Sub (.v 17) (.ki 1))) (.cons (.ix (.v 2) (.ki 0)) .nil))) (.cons (.tup (.cons (.ix (.v 3) (.v 17)) (.cons (.ix (.v 2) (.ki 1)) .nil))) .nil)))) .nil)) .nil)) .nil))) (.frz 15 (.frz 16 (.cons (.ret (.tup (.cons (.v 1) (.cons (.call "_law_turned" (.cons (.v 0) (.cons (.ki 120) (.cons (.v 15) .nil)))) (.cons (.call "_law_turned" (.cons (.v 0) (.cons (.ki 130) (.cons (.v 16) .nil)))) .nil))))) .nil))))))))))))))))))⟩
theorem fs7 : FnScope nm7 ["script", "layout", "doors", "names"] (defScope st7) := ⟨rfl, rfl, rfl, by decide +kernel, rfl, by decide +kernel, by decide +kernel⟩
theorem ok7 : (decide (mf7.slots = nm7.length) && decide ((["script", "layout", "doors", "names"] : List Str).length ≤ nm7.length) && okSs (exL []) nm7 (defScope st7) mf7.body (defBody st7)) = true := by decide +kernel
-- 8 _law_lies ['row', 'letter', 'sign', 'own']
abbrev st8 : Stmt := topS 38
def nm8 : List Str := ["row", "letter", "sign", "own"]
def mf8 : MF := M.rowHolds
theorem fs8 : FnScope nm8 ["row", "letter"] (defScope st8) := ⟨rfl, rfl, rfl, by decide +kernel, rfl, by decide +kernel, by decide +kernel⟩
theorem ok8 : (decide (mf8.slots = nm8.length) && decide ((["row", "letter"] : List Str).length ≤ nm8.length) && okSs (exL []) nm8 (defScope st8) mf8.body (defBody st8)) = true := by decide +kernel
-- 9 _law_goes ['layout', 'ways', 'letter', 'first', 'behind', 'longest', 'what', 'beginning', 'door']
abbrev st9 : Stmt := topS 40
def nm9 : List Str := ["layout", "ways", "letter", "first", "behind", "longest", "what", "beginning", "door"]
def mf9 : MF := M.lGoes
theorem fs9 : FnScope nm9 ["layout", "ways", "letter"] (defScope st9) := ⟨rfl, rfl, rfl, by decide +kernel, rfl, by decide +kernel, by decide +kernel⟩
theorem ok9 : (decide (mf9.slots = nm9.length) && decide ((["layout", "ways", "letter"] : List Str).length ≤ nm9.length) && okSs (exL []) nm9 (defScope st9) mf9.body (defBody st9)) = true := by decide +kernel
-- 10 _law_written ['letter', 'over', 'own', 'sign']
abbrev st10 : Stmt := topS 39
def nm10 : List Str := ["letter", "over", "own", "sign"]
def mf10 : MF := M.lWritten
theorem fs10 : FnScope nm10 ["letter", "over"] (defScope st10) := ⟨rfl, rfl, rfl, by decide +kernel, rfl, by decide +kernel, by decide +kernel⟩
theorem ok10 : (decide (mf10.slots = nm10.length) && decide ((["letter", "over"] : List Str).length ≤ nm10.length) && okSs (exL []) nm10 (defScope st10) mf10.body (defBody st10)) = true := by decide +kernel
-- 11 _law_does ['layout', 'house', 'door', 'letter', 'rules', 'name', 'some', 'number', 'rule']
abbrev st11 : Stmt := topS 41
def nm11 : List Str := ["layout", "house", "door", "letter", "rules", "name", "some", "number", "rule"]
def mf11 : MF := M.lDoes
theorem fs11 : FnScope nm11 ["layout", "house", "door", "letter"] (defScope st11) := ⟨rfl, rfl, rfl, by decide +kernel, rfl, by decide +kernel, by decide +kernel⟩
theorem ok11 : (decide (mf11.slots = nm11.length) && decide ((["layout", "house", "door", "letter"] : List Str).length ≤ nm11.length) && okSs (exL []) nm11 (defScope st11) mf11.body (defBody st11)) = true := by decide +kernel
-- 12 _law_house_of ['houses', 'name', 'own', 'house']
abbrev st12 : Stmt := topS 42
def nm12 : List Str := ["houses", "name", "own", "house"]
def mf12 : MF := M.lHouseOf
theorem fs12 : FnScope nm12 ["houses", "name"] (defScope st12) := ⟨rfl, rfl, rfl, by decide +kernel, rfl, by decide +kernel, by decide +kernel⟩
theorem ok12 : (decide (mf12.slots = nm12.length) && decide ((["houses", "name"] : List Str).length ≤ nm12.length) && okSs (exL []) nm12 (defScope st12) mf12.body (defBody st12)) = true := by decide +kernel
-- 13 _law_beyond ['lines', 'spot', 'one', 'other']
abbrev st13 : Stmt := topS 43
def nm13 : List Str := ["lines", "spot", "one", "other"]
def mf13 : MF := M.lBeyond
theorem fs13 : FnScope nm13 ["lines", "spot"] (defScope st13) := ⟨rfl, rfl, rfl, by decide +kernel, rfl, by decide +kernel, by decide +kernel⟩
theorem ok13 : (decide (mf13.slots = nm13.length) && decide ((["lines", "spot"] : List Str).length ≤ nm13.length) && okSs (exL []) nm13 (defScope st13) mf13.body (defBody st13)) = true := by decide +kernel
-- 14 _law_walk ['net', 'spot', 'letter', 'layout', 'houses', 'lines', 'trail', 'coming', 'does', 'beyond', 'step']
abbrev st14 : Stmt := topS 44
def nm14 : List Str := ["net", "spot", "letter", "layout", "houses", "lines", "trail", "coming", "does", "beyond", "step"]
def mf14 : MF := M.lWalk
theorem fs14 : FnScope nm14 ["net", "spot", "letter"] (defScope st14) := ⟨rfl, rfl, rfl, by decide +kernel, rfl, by decide +kernel, by decide +kernel⟩
theorem ok14 : (decide (mf14.slots = nm14.length) && decide ((["net", "spot", "letter"] : List Str).length ≤ nm14.length) && okSs (exL []) nm14 (defScope st14) mf14.body (defBody st14)) = true := by decide +kernel
-- 15 _law_copy ['thing', 'part']
abbrev st15 : Stmt := topS 46
def nm15 : List Str := ["thing", "part"]
def mf15 : MF := M.copy "_law_copy"
theorem fs15 : FnScope nm15 ["thing"] (defScope st15) := ⟨rfl, rfl, rfl, by decide +kernel, rfl, by decide +kernel, by decide +kernel⟩
theorem ok15 : (decide (mf15.slots = nm15.length) && decide ((["thing"] : List Str).length ≤ nm15.length) && okSs (exL []) nm15 (defScope st15) mf15.body (defBody st15)) = true := by decide +kernel
-- 16 _law_same ['found', 'due', 'own', 'part']
abbrev st16 : Stmt := topS 45
def nm16 : List Str := ["found", "due", "own", "part"]
def mf16 : MF := M.same "_law_same"
theorem fs16 : FnScope nm16 ["found", "due"] (defScope st16) := ⟨rfl, rfl, rfl, by decide +kernel, rfl, by decide +kernel, by decide +kernel⟩
theorem ok16 : (decide (mf16.slots = nm16.length) && decide ((["found", "due"] : List Str).length ≤ nm16.length) && okSs (exL []) nm16 (defScope st16) mf16.body (defBody st16)) = true := by decide +kernel
-- 17 door_rules ['house', 'door', 'name', 'rules']
abbrev st17 : Stmt := topS 21
def nm17 : List Str := ["house", "door", "name", "rules"]
def mf17 : MF := M.doorRulesW (.never)
theorem fs17 : FnScope nm17 ["house", "door"] (defScope st17) := ⟨rfl, rfl, rfl, by decide +kernel, rfl, by decide +kernel, by decide +kernel⟩
theorem ok17 : (decide (mf17.slots = nm17.length) && decide ((["house", "door"] : List Str).length ≤ nm17.length) && okSs (exL []) nm17 (defScope st17) mf17.body (defBody st17)) = true := by decide +kernel
-- 18 house_named ['net', 'name', 'own', 'house']
abbrev st18 : Stmt := topS 24
def nm18 : List Str := ["net", "name", "own", "house"]
def mf18 : MF := M.houseNamedW (.never)
theorem fs18 : FnScope nm18 ["net", "name"] (defScope st18) := ⟨rfl, rfl, rfl, by decide +kernel, rfl, by decide +kernel, by decide +kernel⟩
theorem ok18 : (decide (mf18.slots = nm18.length) && decide ((["net", "name"] : List Str).length ≤ nm18.length) && okSs (exL []) nm18 (defScope st18) mf18.body (defBody st18)) = true := by decide +kernel
-- 19 net_tied ['net', 'house', 'door', 'one', 'other']
abbrev st19 : Stmt := topS 25
def nm19 : List Str := ["net", "house", "door", "one", "other"]
def mf19 : MF := M.netTied
theorem fs19 : FnScope nm19 ["net", "house", "door"] (defScope st19) := ⟨rfl, rfl, rfl, by decide +kernel, rfl, by decide +kernel, by decide +kernel⟩
theorem ok19 : (decide (mf19.slots = nm19.length) && decide ((["net", "house", "door"] : List Str).length ≤ nm19.length) && okSs (exL []) nm19 (defScope st19) mf19.body (defBody st19)) = true := by decide +kernel
-- 20 is_row ['thing', 'width', 'sign']
abbrev st20 : Stmt := topS 7
def nm20 : List Str := ["thing", "width", "sign"]
def mf20 : MF := M.isRowP
theorem fs20 : FnScope nm20 ["thing", "width"] (defScope st20) := ⟨rfl, rfl, rfl, by decide +kernel, rfl, by decide +kernel, by decide +kernel⟩
theorem ok20 : (decide (mf20.slots = nm20.length) && decide ((["thing", "width"] : List Str).length ≤ nm20.length) && okSs (exL []) nm20 (defScope st20) mf20.body (defBody st20)) = true := by decide +kernel
-- 21 is_letter ['thing', 'width']
abbrev st21 : Stmt := topS 8
def nm21 : List Str := ["thing", "width"]
def mf21 : MF := M.isLetterP
theorem fs21 : FnScope nm21 ["thing", "width"] (defScope st21) := ⟨rfl, rfl, rfl, by decide +kernel, rfl, by decide +kernel, by decide +kernel⟩
theorem ok21 : (decide (mf21.slots = nm21.length) && decide ((["thing", "width"] : List Str).length ≤ nm21.length) && okSs (exL []) nm21 (defScope st21) mf21.body (defBody st21)) = true := by decide +kernel
-- 22 layout_width ['layout', 'name', 'size']
abbrev st22 : Stmt := topS 12
def nm22 : List Str := ["layout", "name", "size"]
def mf22 : MF := M.layoutWidth
theorem fs22 : FnScope nm22 ["layout"] (defScope st22) := ⟨rfl, rfl, rfl, by decide +kernel, rfl, by decide +kernel, by decide +kernel⟩
theorem ok22 : (decide (mf22.slots = nm22.length) && decide ((["layout"] : List Str).length ≤ nm22.length) && okSs (exL []) nm22 (defScope st22) mf22.body (defBody st22)) = true := by decide +kernel
-- 23 row_holds ['row', 'letter', 'sign', 'own']
abbrev st23 : Stmt := topS 9
def nm23 : List Str := ["row", "letter", "sign", "own"]
def mf23 : MF := M.rowHolds
theorem fs23 : FnScope nm23 ["row", "letter"] (defScope st23) := ⟨rfl, rfl, rfl, by decide +kernel, rfl, by decide +kernel, by decide +kernel⟩
theorem ok23 : (decide (mf23.slots = nm23.length) && decide ((["row", "letter"] : List Str).length ≤ nm23.length) && okSs (exL []) nm23 (defScope st23) mf23.body (defBody st23)) = true := by decide +kernel
-- 24 rule_first ['rules', 'letter', 'number', 'rule']
abbrev st24 : Stmt := topS 16
def nm24 : List Str := ["rules", "letter", "number", "rule"]
def mf24 : MF := M.ruleFirst
theorem fs24 : FnScope nm24 ["rules", "letter"] (defScope st24) := ⟨rfl, rfl, rfl, by decide +kernel, rfl, by decide +kernel, by decide +kernel⟩
theorem ok24 : (decide (mf24.slots = nm24.length) && decide ((["rules", "letter"] : List Str).length ≤ nm24.length) && okSs (exL []) nm24 (defScope st24) mf24.body (defBody st24)) = true := by decide +kernel
-- 25 row_written ['row', 'over', 'signs', 'sign', 'fresh']
abbrev st25 : Stmt := topS 10
def nm25 : List Str := ["row", "over", "signs", "sign", "fresh"]
def mf25 : MF := M.written
theorem fs25 : FnScope nm25 ["row", "over"] (defScope st25) := ⟨rfl, rfl, rfl, by decide +kernel, rfl, by decide +kernel, by decide +kernel⟩
theorem ok25 : (decide (mf25.slots = nm25.length) && decide ((["row", "over"] : List Str).length ≤ nm25.length) && okSs (exL []) nm25 (defScope st25) mf25.body (defBody st25)) = true := by decide +kernel
-- 26 rule_deed ['rules', 'letter', 'number']
abbrev st26 : Stmt := topS 17
def nm26 : List Str := ["rules", "letter", "number"]
def mf26 : MF := M.ruleDeed
theorem fs26 : FnScope nm26 ["rules", "letter"] (defScope st26) := ⟨rfl, rfl, rfl, by decide +kernel, rfl, by decide +kernel, by decide +kernel⟩
theorem ok26 : (decide (mf26.slots = nm26.length) && decide ((["rules", "letter"] : List Str).length ≤ nm26.length) && okSs (exL []) nm26 (defScope st26) mf26.body (defBody st26)) = true := by decide +kernel
-- 27 way_found ['ways', 'signs', 'found', 'longest', 'beginning', 'door']
abbrev st27 : Stmt := topS 19
def nm27 : List Str := ["ways", "signs", "found", "longest", "beginning", "door"]
def mf27 : MF := M.wayFound
theorem fs27 : FnScope nm27 ["ways", "signs"] (defScope st27) := ⟨rfl, rfl, rfl, by decide +kernel, rfl, by decide +kernel, by decide +kernel⟩
theorem ok27 : (decide (mf27.slots = nm27.length) && decide ((["ways", "signs"] : List Str).length ≤ nm27.length) && okSs (exL []) nm27 (defScope st27) mf27.body (defBody st27)) = true := by decide +kernel
-- 28 field_span ['layout', 'name', 'first', 'own', 'size']
abbrev st28 : Stmt := topS 13
def nm28 : List Str := ["layout", "name", "first", "own", "size"]
def mf28 : MF := M.fieldSpanW (.never)
theorem fs28 : FnScope nm28 ["layout", "name"] (defScope st28) := ⟨rfl, rfl, rfl, by decide +kernel, rfl, by decide +kernel, by decide +kernel⟩
theorem ok28 : (decide (mf28.slots = nm28.length) && decide ((["layout", "name"] : List Str).length ≤ nm28.length) && okSs (exL []) nm28 (defScope st28) mf28.body (defBody st28)) = true := by decide +kernel
-- 29 field_part ['layout', 'name', 'row', 'first', 'behind']
abbrev st29 : Stmt := topS 14
def nm29 : List Str := ["layout", "name", "row", "first", "behind"]
def mf29 : MF := M.fieldPart
theorem fs29 : FnScope nm29 ["layout", "name", "row"] (defScope st29) := ⟨rfl, rfl, rfl, by decide +kernel, rfl, by decide +kernel, by decide +kernel⟩
theorem ok29 : (decide (mf29.slots = nm29.length) && decide ((["layout", "name", "row"] : List Str).length ≤ nm29.length) && okSs (exL []) nm29 (defScope st29) mf29.body (defBody st29)) = true := by decide +kernel
-- 30 house_does ['layout', 'house', 'door', 'letter', 'rules', 'word', 'sent', 'out']
abbrev st30 : Stmt := topS 22
def nm30 : List Str := ["layout", "house", "door", "letter", "rules", "word", "sent", "out"]
def mf30 : MF := M.houseDoes
theorem fs30 : FnScope nm30 ["layout", "house", "door", "letter"] (defScope st30) := ⟨rfl, rfl, rfl, by decide +kernel, rfl, by decide +kernel, by decide +kernel⟩
theorem ok30 : (decide (mf30.slots = nm30.length) && decide ((["layout", "house", "door", "letter"] : List Str).length ≤ nm30.length) && okSs (exL []) nm30 (defScope st30) mf30.body (defBody st30)) = true := by decide +kernel
-- 31 net_walk ['net', 'house', 'door', 'letter', 'trail', 'seen', 'coming', 'does', 'tied', 'step']
abbrev st31 : Stmt := topS 27
def nm31 : List Str := ["net", "house", "door", "letter", "trail", "seen", "coming", "does", "tied", "step"]
def mf31 : MF := M.netWalkW (.never)
theorem fs31 : FnScope nm31 ["net", "house", "door", "letter"] (defScope st31) := ⟨rfl, rfl, rfl, by decide +kernel, rfl, by decide +kernel, by decide +kernel⟩
theorem ok31 : (decide (mf31.slots = nm31.length) && decide ((["net", "house", "door", "letter"] : List Str).length ≤ nm31.length) && okSs (exL []) nm31 (defScope st31) mf31.body (defBody st31)) = true := by decide +kernel
-- 32 _law_fared ['end']
abbrev st32 : Stmt := topS 47
def nm32 : List Str := ["end"]
def mf32 : MF := M.fared
theorem fs32 : FnScope nm32 ["end"] (defScope st32) := ⟨rfl, rfl, rfl, by decide +kernel, rfl, by decide +kernel, by decide +kernel⟩
theorem ok32 : (decide (mf32.slots = nm32.length) && decide ((["end"] : List Str).length ≤ nm32.length) && okSs (exL []) nm32 (defScope st32) mf32.body (defBody st32)) = true := by decide +kernel
-- 33 net_fared ['net', 'house', 'door', 'letter', 'end']
abbrev st33 : Stmt := topS 28
def nm33 : List Str := ["net", "house", "door", "letter", "end"]
def mf33 : MF := M.netFared
theorem fs33 : FnScope nm33 ["net", "house", "door", "letter"] (defScope st33) := ⟨rfl, rfl, rfl, by decide +kernel, rfl, by decide +kernel, by decide +kernel⟩
theorem ok33 : (decide (mf33.slots = nm33.length) && decide ((["net", "house", "door", "letter"] : List Str).length ≤ nm33.length) && okSs (exL []) nm33 (defScope st33) mf33.body (defBody st33)) = true := by decide +kernel
-- 34 law ['script', 'sizes', 'layout', 'body', 'at', 'start', 'letters', 'names', 'doors', 'net', 'width', 'letter', 'first', 'behind', 'house', 'door', 'own', 'due', 'handed', 'h', 'j']
abbrev st34 : Stmt := topS 48
def nm34 : List Str := ["script", "sizes", "layout", "body", "at", "start", "letters", "names", "doors", "net", "width", "letter", "first", "behind", "house", "door", "own", "due", "handed", "h", "j"]
def mf34 : MF := ⟨21, (.cons (.set 1 (.lst (.cons (.bin .Add (.ki 5) (.call "_law_draw" (.cons (.v 0) (.cons (.ki 0) (.cons (.ki 20) .nil))))) (.cons (.bin .Add (.ki 1) (.call "_law_draw" (.cons (.v 0) (.cons (.ki 1) (.cons (.ki 4) .nil))))) (.cons (.bin .Add (.ki 1) (.call "_law_draw" (.cons (.v 0) (.cons (.ki 2) (.cons (.ki 19) .nil))))) .nil)))) false) (.cons (.ife (.cmp .Eq (.call "_law_draw" (.cons (.v 0) (.cons (.ki 3) (.cons (.ki 2) .nil)))) (.ki 0)) (.cons (.set 1 (.lst (.cons (.ki 5) (.cons (.ki 1) (.cons (.ki 1) .nil)))) false) .nil) .nil) (.cons (.set 2 (.call "_law_turned" (.cons (.v 0) (.cons (.ki 4) (.cons (.lst (.cons (.tup (.cons (.ks "count") (.cons (.ix (.v 1) (.ki 0)) .nil))) (.cons (.tup (.cons (.ks "to") (.cons (.ix (.v 1) (.ki 1)) .nil))) (.cons (.tup (.cons (.ks "rest") (.cons (.ix (.v 1) (.ki 2)) .nil))) .nil)))) .nil)))) false) (.cons (.set 3 (.sl (.ks "harbour") .no (.so (.call "_law_draw" (.cons (.v 0) (.cons (.ki 14) (.cons (.ki 8) .nil)))))) false) (.cons (.set 4 (.call "_law_draw" (.cons (.v 0) (.cons (.ki 15) (.cons (.bin .Add (.bi "len" (.cons (.v 3) .nil)) (.ki 1)) .nil)))) false) (.cons (.set 5 (.call "_law_draw" (.cons (.v 0) (.cons (.ki 16) (.cons (.ki 26) .nil)))) false) (.cons (.set 6 (.ks "abcdefghijklmnopqrstuvwxyz") false) (.cons (.set 7 (.lc (.n 19) (.r1 (.ki 9)) .no (.bin .Add (.bin .Add (.sl (.v 3) .no (.so (.v 4))) (.ix (.v 6) (.bin .Mod (.bin .Add (.v 5) (.bin .Mult (.ki 7) (.v 19))) (.ki 26)))) (.sl (.v 3) (.so (.v 4)) .no))) false) (.cons (.set 8 (.call "_law_names" (.cons (.v 0) (.cons (.ki 22) (.cons (.ki 4) .nil)))) false) (.cons (.set 9 (.call "_law_ring" (.cons (.v 0) (.cons (.v 2) (.cons (.v 8) (.cons (.v 7) .nil))))) false) (.cons (.set 10 (.call "_law_width" (.cons (.v 2) .nil)) false) (.cons (.set 11 (.mt (.ks "") "join" (.cons (.lc (.n 20) (.r1 (.v 10)) .no (.ix (.ks "01") (.call "_law_draw" (.cons (.v 0) (.cons (.bin .Add (.ki 140) (.v 20)) (.cons (.ki 2) .nil)))))) .nil)) false) (.cons (.ife (.cmp .Gt (.call "_law_draw" (.cons (.v 0) (.cons (.ki 17) (.cons (.ki 3) .nil)))) (.ki 0)) (.cons (.unp [12, 13] (.call "_law_span" (.cons (.v 2) .nil))) (.cons (.set 11 (.bin .Add (.bin .Add (.sl (.v 11) .no (.so (.v 12))) (.bin .Mult (.ks "0") (.bin .Sub (.v 13) (.v 12)))) (.sl (.v 11) (.so (.v 13)) .no)) false) .nil)) .nil) (.cons (.set 14 (.ix (.v 7) (.bin .Sub (.bi "len" (.cons (.ix (.v 9) (.ki 1)) .nil)) (.ki 1))) false) (.cons (.set 15 (.ix (.v 8) (.ki 0)) false) (.cons (.ife (.cmp .Eq (.call "_law_draw" (.cons (.v 0) (.cons (.ki 20) (.cons (.ki 3) .nil)))) (.ki 0)) (.cons (.unp [14, 16] (.ix (.ix (.v 9) (.ki 1)) (.call "_law_draw" (.cons (.v 0) (.cons (.ki 18) (.cons (.bi "len" (.cons (.ix (.v 9) (.ki 1)) .nil)) .nil)))))) (.cons (.set 15 (.ix (.ix (.ix (.v 16) (.ki 0)) (.call "_law_draw" (.cons (.v 0) (.cons (.ki 19) (.cons (.bi "len" (.cons (.ix (.v 16) (.ki 0)) .nil)) .nil))))) (.ki 0)) false) .nil)) .nil) (.cons (.set 17 (.call "_law_walk" (.cons (.v 9) (.cons (.tup (.cons (.v 14) (.cons (.v 15) .nil))) (.cons (.v 11) .nil)))) false) (.cons (.set 18 (.call "_law_copy" (.cons (.v 9) .nil)) false) (.cons (.ife (.not_ (.call "_law_same" (.cons (.call "net_walk" (.cons (.v 18) (.cons (.v 14) (.cons (.v 15) (.cons (.v 11) .nil))))) (.cons (.v 17) .nil)))) (.cons (.ret (.kb false)) .nil) .nil) (.cons (.ife (.not_ (.call "_law_same" (.cons (.call "net_fared" (.cons (.v 18) (.cons (.v 14) (.cons (.v 15) (.cons (.v 11) .nil))))) (.cons (.call "_law_fared" (.cons (.ix (.v 17) (.ki 1)) .nil)) .nil)))) (.cons (.ret (.kb false)) .nil) .nil) (.cons (.ret (.call "_law_same" (.cons (.v 18) (.cons (.v 9) .nil)))) .nil)))))))))))))))))))))⟩
theorem fs34 : FnScope nm34 ["script"] (defScope st34) := ⟨rfl, rfl, rfl, by decide +kernel, rfl, by decide +kernel, by decide +kernel⟩
theorem ok34 : (decide (mf34.slots = nm34.length) && decide ((["script"] : List Str).length ≤ nm34.length) && okSs (exL []) nm34 (defScope st34) mf34.body (defBody st34)) = true := by decide +kernel
def ft0 : FT := fun _ => none
def fu0 : List D → Nat := fun ds => 0
def fn0 : List D → R Rv := fun ds => runF ft0 (fu0 ds) mf0 ds
def ft1 : FT := put ft0 "_law_draw" 3 fn0
def fu1 : List D → Nat := fun ds => 0
def fn1 : List D → R Rv := fun ds => runF ft1 (fu1 ds) mf1 ds
def ft2 : FT := put ft1 "_law_turned" 3 fn1
def fu2 : List D → Nat := fun ds => 0
def fn2 : List D → R Rv := fun ds => runF ft2 (fu2 ds) mf2 ds
def ft3 : FT := put ft2 "_law_names" 3 fn2
def fu3 : List D → Nat := fun ds => 0
def fn3 : List D → R Rv := fun ds => runF ft3 (fu3 ds) mf3 ds
def ft4 : FT := put ft3 "_law_width" 1 fn3
def fu4 : List D → Nat := fun ds => 0
def fn4 : List D → R Rv := fun ds => runF ft4 (fu4 ds) mf4 ds
def ft5 : FT := put ft4 "_law_span" 1 fn4
def fu5 : List D → Nat := fun ds => 0
def fn5 : List D → R Rv := fun ds => runF ft5 (fu5 ds) mf5 ds
def ft6 : FT := put ft5 "_law_row_at" 3 fn5
def fu6 : List D → Nat := fun ds => 0
def fn6 : List D → R Rv := fun ds => runF ft6 (fu6 ds) mf6 ds
def ft7 : FT := put ft6 "_law_counting" 5 fn6
def fu7 : List D → Nat := fun ds => 0
def fn7 : List D → R Rv := fun ds => runF ft7 (fu7 ds) mf7 ds
def ft8 : FT := put ft7 "_law_ring" 4 fn7
def fu8 : List D → Nat := fun ds => 0
def fn8 : List D → R Rv := fun ds => runF ft8 (fu8 ds) mf8 ds
def ft9 : FT := put ft8 "_law_lies" 2 fn8
def fu9 : List D → Nat := fun ds => 0
def fn9 : List D → R Rv := fun ds => runF ft9 (fu9 ds) mf9 ds
def ft10 : FT := put ft9 "_law_goes" 3 fn9
def fu10 : List D → Nat := fun ds => 0
def fn10 : List D → R Rv := fun ds => runF ft10 (fu10 ds) mf10 ds
def ft11 : FT := put ft10 "_law_written" 2 fn10
def fu11 : List D → Nat := fun ds => 0
def fn11 : List D → R Rv := fun ds => runF ft11 (fu11 ds) mf11 ds
def ft12 : FT := put ft11 "_law_does" 4 fn11
def fu12 : List D → Nat := fun ds => 0
def fn12 : List D → R Rv := fun ds => runF ft12 (fu12 ds) mf12 ds
def ft13 : FT := put ft12 "_law_house_of" 2 fn12
def fu13 : List D → Nat := fun ds => 0
def fn13 : List D → R Rv := fun ds => runF ft13 (fu13 ds) mf13 ds
def ft14 : FT := put ft13 "_law_beyond" 2 fn13
def fu14 : List D → Nat := fun ds => 100000
def fn14 : List D → R Rv := fun ds => runF ft14 (fu14 ds) mf14 ds
def ft15 : FT := put ft14 "_law_walk" 3 fn14
def fn15 : List D → R Rv := recG ft15 "_law_copy" 1 mf15 0 9
def ft16 : FT := put ft15 "_law_copy" 1 fn15
def fn16 : List D → R Rv := recG ft16 "_law_same" 2 mf16 0 9
def ft17 : FT := put ft16 "_law_same" 2 fn16
def fu17 : List D → Nat := fun ds => 0
def fn17 : List D → R Rv := fun ds => runF ft17 (fu17 ds) mf17 ds
def ft18 : FT := put ft17 "door_rules" 2 fn17
def fu18 : List D → Nat := fun ds => 0
def fn18 : List D → R Rv := fun ds => runF ft18 (fu18 ds) mf18 ds
def ft19 : FT := put ft18 "house_named" 2 fn18
def fu19 : List D → Nat := fun ds => 0
def fn19 : List D → R Rv := fun ds => runF ft19 (fu19 ds) mf19 ds
def ft20 : FT := put ft19 "net_tied" 3 fn19
def fu20 : List D → Nat := fun ds => 0
def fn20 : List D → R Rv := fun ds => runF ft20 (fu20 ds) mf20 ds
def ft21 : FT := put ft20 "is_row" 2 fn20
def fu21 : List D → Nat := fun ds => 0
def fn21 : List D → R Rv := fun ds => runF ft21 (fu21 ds) mf21 ds
def ft22 : FT := put ft21 "is_letter" 2 fn21
def fu22 : List D → Nat := fun ds => 0
def fn22 : List D → R Rv := fun ds => runF ft22 (fu22 ds) mf22 ds
def ft23 : FT := put ft22 "layout_width" 1 fn22
def fu23 : List D → Nat := fun ds => 0
def fn23 : List D → R Rv := fun ds => runF ft23 (fu23 ds) mf23 ds
def ft24 : FT := put ft23 "row_holds" 2 fn23
def fu24 : List D → Nat := fun ds => 0
def fn24 : List D → R Rv := fun ds => runF ft24 (fu24 ds) mf24 ds
def ft25 : FT := put ft24 "rule_first" 2 fn24
def fu25 : List D → Nat := fun ds => 0
def fn25 : List D → R Rv := fun ds => runF ft25 (fu25 ds) mf25 ds
def ft26 : FT := put ft25 "row_written" 2 fn25
def fu26 : List D → Nat := fun ds => 0
def fn26 : List D → R Rv := fun ds => runF ft26 (fu26 ds) mf26 ds
def ft27 : FT := put ft26 "rule_deed" 2 fn26
def fu27 : List D → Nat := fun ds => 0
def fn27 : List D → R Rv := fun ds => runF ft27 (fu27 ds) mf27 ds
def ft28 : FT := put ft27 "way_found" 2 fn27
def fu28 : List D → Nat := fun ds => 0
def fn28 : List D → R Rv := fun ds => runF ft28 (fu28 ds) mf28 ds
def ft29 : FT := put ft28 "field_span" 2 fn28
def fu29 : List D → Nat := fun ds => 0
def fn29 : List D → R Rv := fun ds => runF ft29 (fu29 ds) mf29 ds
def ft30 : FT := put ft29 "field_part" 3 fn29
def fu30 : List D → Nat := fun ds => 0
def fn30 : List D → R Rv := fun ds => runF ft30 (fu30 ds) mf30 ds
def ft31 : FT := put ft30 "house_does" 4 fn30
def fu31 : List D → Nat := fun ds => 100000
def fn31 : List D → R Rv := fun ds => runF ft31 (fu31 ds) mf31 ds
def ft32 : FT := put ft31 "net_walk" 4 fn31
def fu32 : List D → Nat := fun ds => 0
def fn32 : List D → R Rv := fun ds => runF ft32 (fu32 ds) mf32 ds
def ft33 : FT := put ft32 "_law_fared" 1 fn32
def fu33 : List D → Nat := fun ds => 0
def fn33 : List D → R Rv := fun ds => runF ft33 (fu33 ds) mf33 ds
def ft34 : FT := put ft33 "net_fared" 4 fn33
def fu34 : List D → Nat := fun ds => 0
def fn34 : List D → R Rv := fun ds => runF ft34 (fu34 ds) mf34 ds
theorem at1_0 : ft1 "_law_draw" = some (3, fn0) := put_self
theorem at2_0 : ft2 "_law_draw" = some (3, fn0) := (put_ne (by decide)).trans (put_self)
theorem at6_5 : ft6 "_law_row_at" = some (3, fn5) := put_self
theorem at6_1 : ft6 "_law_turned" = some (3, fn1) := (put_ne (by decide)).trans ((put_ne (by decide)).trans ((put_ne (by decide)).trans ((put_ne (by decide)).trans (put_self))))
theorem at6_0 : ft6 "_law_draw" = some (3, fn0) := (put_ne (by decide)).trans ((put_ne (by decide)).trans ((put_ne (by decide)).trans ((put_ne (by decide)).trans ((put_ne (by decide)).trans (put_self)))))
theorem at7_3 : ft7 "_law_width" = some (1, fn3) := (put_ne (by decide)).trans ((put_ne (by decide)).trans ((put_ne (by decide)).trans (put_self)))
theorem at7_4 : ft7 "_law_span" = some (1, fn4) := (put_ne (by decide)).trans ((put_ne (by decide)).trans (put_self))
theorem at7_0 : ft7 "_law_draw" = some (3, fn0) := (put_ne (by decide)).trans ((put_ne (by decide)).trans ((put_ne (by decide)).trans ((put_ne (by decide)).trans ((put_ne (by decide)).trans ((put_ne (by decide)).trans (put_self))))))
theorem at7_1 : ft7 "_law_turned" = some (3, fn1) := (put_ne (by decide)).trans ((put_ne (by decide)).trans ((put_ne (by decide)).trans ((put_ne (by decide)).trans ((put_ne (by decide)).trans (put_self)))))
theorem at7_6 : ft7 "_law_counting" = some (5, fn6) := put_self
theorem at9_4 : ft9 "_law_span" = some (1, fn4) := (put_ne (by decide)).trans ((put_ne (by decide)).trans ((put_ne (by decide)).trans ((put_ne (by decide)).trans (put_self))))
theorem at11_8 : ft11 "_law_lies" = some (2, fn8) := (put_ne (by decide)).trans ((put_ne (by decide)).trans (put_self))
theorem at11_9 : ft11 "_law_goes" = some (3, fn9) := (put_ne (by decide)).trans (put_self)
theorem at11_10 : ft11 "_law_written" = some (2, fn10) := put_self
theorem at14_11 : ft14 "_law_does" = some (4, fn11) := (put_ne (by decide)).trans ((put_ne (by decide)).trans (put_self))
theorem at14_12 : ft14 "_law_house_of" = some (2, fn12) := (put_ne (by decide)).trans (put_self)
theorem at14_13 : ft14 "_law_beyond" = some (2, fn13) := put_self
theorem at19_17 : ft19 "door_rules" = some (2, fn17) := (put_ne (by decide)).trans (put_self)
theorem at19_18 : ft19 "house_named" = some (2, fn18) := put_self
theorem at21_20 : ft21 "is_row" = some (2, fn20) := put_self
theorem at24_23 : ft24 "row_holds" = some (2, fn23) := put_self
theorem at26_24 : ft26 "rule_first" = some (2, fn24) := (put_ne (by decide)).trans (put_self)
theorem at26_25 : ft26 "row_written" = some (2, fn25) := put_self
theorem at29_28 : ft29 "field_span" = some (2, fn28) := put_self
theorem at30_17 : ft30 "door_rules" = some (2, fn17) := (put_ne (by decide)).trans ((put_ne (by decide)).trans ((put_ne (by decide)).trans ((put_ne (by decide)).trans ((put_ne (by decide)).trans ((put_ne (by decide)).trans ((put_ne (by decide)).trans ((put_ne (by decide)).trans ((put_ne (by decide)).trans ((put_ne (by decide)).trans ((put_ne (by decide)).trans ((put_ne (by decide)).trans (put_self))))))))))))
theorem at30_26 : ft30 "rule_deed" = some (2, fn26) := (put_ne (by decide)).trans ((put_ne (by decide)).trans ((put_ne (by decide)).trans (put_self)))
theorem at30_24 : ft30 "rule_first" = some (2, fn24) := (put_ne (by decide)).trans ((put_ne (by decide)).trans ((put_ne (by decide)).trans ((put_ne (by decide)).trans ((put_ne (by decide)).trans (put_self)))))
theorem at30_27 : ft30 "way_found" = some (2, fn27) := (put_ne (by decide)).trans ((put_ne (by decide)).trans (put_self))
theorem at30_29 : ft30 "field_part" = some (3, fn29) := put_self
theorem at31_19 : ft31 "net_tied" = some (3, fn19) := (put_ne (by decide)).trans ((put_ne (by decide)).trans ((put_ne (by decide)).trans ((put_ne (by decide)).trans ((put_ne (by decide)).trans ((put_ne (by decide)).trans ((put_ne (by decide)).trans ((put_ne (by decide)).trans ((put_ne (by decide)).trans ((put_ne (by decide)).trans ((put_ne (by decide)).trans (put_self)))))))))))
theorem at31_21 : ft31 "is_letter" = some (2, fn21) := (put_ne (by decide)).trans ((put_ne (by decide)).trans ((put_ne (by decide)).trans ((put_ne (by decide)).trans ((put_ne (by decide)).trans ((put_ne (by decide)).trans ((put_ne (by decide)).trans ((put_ne (by decide)).trans ((put_ne (by decide)).trans (put_self)))))))))
theorem at31_22 : ft31 "layout_width" = some (1, fn22) := (put_ne (by decide)).trans ((put_ne (by decide)).trans ((put_ne (by decide)).trans ((put_ne (by decide)).trans ((put_ne (by decide)).trans ((put_ne (by decide)).trans ((put_ne (by decide)).trans ((put_ne (by decide)).trans (put_self))))))))
theorem at31_30 : ft31 "house_does" = some (4, fn30) := put_self
theorem at31_18 : ft31 "house_named" = some (2, fn18) := (put_ne (by decide)).trans ((put_ne (by decide)).trans ((put_ne (by decide)).trans ((put_ne (by decide)).trans ((put_ne (by decide)).trans ((put_ne (by decide)).trans ((put_ne (by decide)).trans ((put_ne (by decide)).trans ((put_ne (by decide)).trans ((put_ne (by decide)).trans ((put_ne (by decide)).trans ((put_ne (by decide)).trans (put_self))))))))))))
theorem at33_31 : ft33 "net_walk" = some (4, fn31) := (put_ne (by decide)).trans (put_self)
theorem at34_0 : ft34 "_law_draw" = some (3, fn0) := (put_ne (by decide)).trans ((put_ne (by decide)).trans ((put_ne (by decide)).trans ((put_ne (by decide)).trans ((put_ne (by decide)).trans ((put_ne (by decide)).trans ((put_ne (by decide)).trans ((put_ne (by decide)).trans ((put_ne (by decide)).trans ((put_ne (by decide)).trans ((put_ne (by decide)).trans ((put_ne (by decide)).trans ((put_ne (by decide)).trans ((put_ne (by decide)).trans ((put_ne (by decide)).trans ((put_ne (by decide)).trans ((put_ne (by decide)).trans ((put_ne (by decide)).trans ((put_ne (by decide)).trans ((put_ne (by decide)).trans ((put_ne (by decide)).trans ((put_ne (by decide)).trans ((put_ne (by decide)).trans ((put_ne (by decide)).trans ((put_ne (by decide)).trans ((put_ne (by decide)).trans ((put_ne (by decide)).trans ((put_ne (by decide)).trans ((put_ne (by decide)).trans ((put_ne (by decide)).trans ((put_ne (by decide)).trans ((put_ne (by decide)).trans ((put_ne (by decide)).trans (put_self)))))))))))))))))))))))))))))))))
theorem at34_1 : ft34 "_law_turned" = some (3, fn1) := (put_ne (by decide)).trans ((put_ne (by decide)).trans ((put_ne (by decide)).trans ((put_ne (by decide)).trans ((put_ne (by decide)).trans ((put_ne (by decide)).trans ((put_ne (by decide)).trans ((put_ne (by decide)).trans ((put_ne (by decide)).trans ((put_ne (by decide)).trans ((put_ne (by decide)).trans ((put_ne (by decide)).trans ((put_ne (by decide)).trans ((put_ne (by decide)).trans ((put_ne (by decide)).trans ((put_ne (by decide)).trans ((put_ne (by decide)).trans ((put_ne (by decide)).trans ((put_ne (by decide)).trans ((put_ne (by decide)).trans ((put_ne (by decide)).trans ((put_ne (by decide)).trans ((put_ne (by decide)).trans ((put_ne (by decide)).trans ((put_ne (by decide)).trans ((put_ne (by decide)).trans ((put_ne (by decide)).trans ((put_ne (by decide)).trans ((put_ne (by decide)).trans ((put_ne (by decide)).trans ((put_ne (by decide)).trans ((put_ne (by decide)).trans (put_self))))))))))))))))))))))))))))))))
theorem at34_2 : ft34 "_law_names" = some (3, fn2) := (put_ne (by decide)).trans ((put_ne (by decide)).trans ((put_ne (by decide)).trans ((put_ne (by decide)).trans ((put_ne (by decide)).trans ((put_ne (by decide)).trans ((put_ne (by decide)).trans ((put_ne (by decide)).trans ((put_ne (by decide)).trans ((put_ne (by decide)).trans ((put_ne (by decide)).trans ((put_ne (by decide)).trans ((put_ne (by decide)).trans ((put_ne (by decide)).trans ((put_ne (by decide)).trans ((put_ne (by decide)).trans ((put_ne (by decide)).trans ((put_ne (by decide)).trans ((put_ne (by decide)).trans ((put_ne (by decide)).trans ((put_ne (by decide)).trans ((put_ne (by decide)).trans ((put_ne (by decide)).trans ((put_ne (by decide)).trans ((put_ne (by decide)).trans ((put_ne (by decide)).trans ((put_ne (by decide)).trans ((put_ne (by decide)).trans ((put_ne (by decide)).trans ((put_ne (by decide)).trans ((put_ne (by decide)).trans (put_self)))))))))))))))))))))))))))))))
theorem at34_7 : ft34 "_law_ring" = some (4, fn7) := (put_ne (by decide)).trans ((put_ne (by decide)).trans ((put_ne (by decide)).trans ((put_ne (by decide)).trans ((put_ne (by decide)).trans ((put_ne (by decide)).trans ((put_ne (by decide)).trans ((put_ne (by decide)).trans ((put_ne (by decide)).trans ((put_ne (by decide)).trans ((put_ne (by decide)).trans ((put_ne (by decide)).trans ((put_ne (by decide)).trans ((put_ne (by decide)).trans ((put_ne (by decide)).trans ((put_ne (by decide)).trans ((put_ne (by decide)).trans ((put_ne (by decide)).trans ((put_ne (by decide)).trans ((put_ne (by decide)).trans ((put_ne (by decide)).trans ((put_ne (by decide)).trans ((put_ne (by decide)).trans ((put_ne (by decide)).trans ((put_ne (by decide)).trans ((put_ne (by decide)).trans (put_self))))))))))))))))))))))))))
theorem at34_3 : ft34 "_law_width" = some (1, fn3) := (put_ne (by decide)).trans ((put_ne (by decide)).trans ((put_ne (by decide)).trans ((put_ne (by decide)).trans ((put_ne (by decide)).trans ((put_ne (by decide)).trans ((put_ne (by decide)).trans ((put_ne (by decide)).trans ((put_ne (by decide)).trans ((put_ne (by decide)).trans ((put_ne (by decide)).trans ((put_ne (by decide)).trans ((put_ne (by decide)).trans ((put_ne (by decide)).trans ((put_ne (by decide)).trans ((put_ne (by decide)).trans ((put_ne (by decide)).trans ((put_ne (by decide)).trans ((put_ne (by decide)).trans ((put_ne (by decide)).trans ((put_ne (by decide)).trans ((put_ne (by decide)).trans ((put_ne (by decide)).trans ((put_ne (by decide)).trans ((put_ne (by decide)).trans ((put_ne (by decide)).trans ((put_ne (by decide)).trans ((put_ne (by decide)).trans ((put_ne (by decide)).trans ((put_ne (by decide)).trans (put_self))))))))))))))))))))))))))))))
theorem at34_4 : ft34 "_law_span" = some (1, fn4) := (put_ne (by decide)).trans ((put_ne (by decide)).trans ((put_ne (by decide)).trans ((put_ne (by decide)).trans ((put_ne (by decide)).trans ((put_ne (by decide)).trans ((put_ne (by decide)).trans ((put_ne (by decide)).trans ((put_ne (by decide)).trans ((put_ne (by decide)).trans ((put_ne (by decide)).trans ((put_ne (by decide)).trans ((put_ne (by decide)).trans ((put_ne (by decide)).trans ((put_ne (by decide)).trans ((put_ne (by decide)).trans ((put_ne (by decide)).trans ((put_ne (by decide)).trans ((put_ne (by decide)).trans ((put_ne (by decide)).trans ((put_ne (by decide)).trans ((put_ne (by decide)).trans ((put_ne (by decide)).trans ((put_ne (by decide)).trans ((put_ne (by decide)).trans ((put_ne (by decide)).trans ((put_ne (by decide)).trans ((put_ne (by decide)).trans ((put_ne (by decide)).trans (put_self)))))))))))))))))))))))))))))
theorem at34_14 : ft34 "_law_walk" = some (3, fn14) := (put_ne (by decide)).trans ((put_ne (by decide)).trans ((put_ne (by decide)).trans ((put_ne (by decide)).trans ((put_ne (by decide)).trans ((put_ne (by decide)).trans ((put_ne (by decide)).trans ((put_ne (by decide)).trans ((put_ne (by decide)).trans ((put_ne (by decide)).trans ((put_ne (by decide)).trans ((put_ne (by decide)).trans ((put_ne (by decide)).trans ((put_ne (by decide)).trans ((put_ne (by decide)).trans ((put_ne (by decide)).trans ((put_ne (by decide)).trans ((put_ne (by decide)).trans ((put_ne (by decide)).trans (put_self)))))))))))))))))))
theorem at34_15 : ft34 "_law_copy" = some (1, fn15) := (put_ne (by decide)).trans ((put_ne (by decide)).trans ((put_ne (by decide)).trans ((put_ne (by decide)).trans ((put_ne (by decide)).trans ((put_ne (by decide)).trans ((put_ne (by decide)).trans ((put_ne (by decide)).trans ((put_ne (by decide)).trans ((put_ne (by decide)).trans ((put_ne (by decide)).trans ((put_ne (by decide)).trans ((put_ne (by decide)).trans ((put_ne (by decide)).trans ((put_ne (by decide)).trans ((put_ne (by decide)).trans ((put_ne (by decide)).trans ((put_ne (by decide)).trans (put_self))))))))))))))))))
theorem at34_16 : ft34 "_law_same" = some (2, fn16) := (put_ne (by decide)).trans ((put_ne (by decide)).trans ((put_ne (by decide)).trans ((put_ne (by decide)).trans ((put_ne (by decide)).trans ((put_ne (by decide)).trans ((put_ne (by decide)).trans ((put_ne (by decide)).trans ((put_ne (by decide)).trans ((put_ne (by decide)).trans ((put_ne (by decide)).trans ((put_ne (by decide)).trans ((put_ne (by decide)).trans ((put_ne (by decide)).trans ((put_ne (by decide)).trans ((put_ne (by decide)).trans ((put_ne (by decide)).trans (put_self)))))))))))))))))
theorem at34_31 : ft34 "net_walk" = some (4, fn31) := (put_ne (by decide)).trans ((put_ne (by decide)).trans (put_self))
theorem at34_32 : ft34 "_law_fared" = some (1, fn32) := (put_ne (by decide)).trans (put_self)
theorem at34_33 : ft34 "net_fared" = some (4, fn33) := put_self
end K39

set_option Elab.async false
set_option linter.all false
set_option maxRecDepth 100000
set_option maxHeartbeats 4000000
namespace K39
open PySem L2 En
def intsD (ps : List Nat) : D := .list (ps.map fun p : Nat => .int (p : Int))
@[simp] theorem imm_ints (ps : List Nat) : imm (intsD ps) = false := imm_list _
def TellsR (T : List Nat) (r : Tx) : Prop := ∀ i x : Nat, r[i]? = some x → x ≠ 45 → i ∈ T
theorem setRow {w p s : Nat} {r : Tx} (hr : Row w r) (hs : Sg s) : Row w (r.set p s) := ⟨by rw [List.length_set]; exact hr.1, fun c hc => by
  rcases List.mem_or_eq_of_mem_set hc with h | h
  · exact hr.2 c h
  · rw [h]; exact hs⟩
theorem rowAt_ok {X : Str → Prop} {K : Rv → Prop} {w : Nat} (hw : w ≤ 900) (ps : List Nat) (hp : ∀ p ∈ ps, p < w) (s : Tx) (hs : ∀ c ∈ s, Sg c) (q : ∀ r, Row w r → TellsR ps r → K (.fr false (tx r))) : RS X (fn5 [.int (w : Int), intsD ps, tx s]) K := by
  refine rs_run ?_
  have ml : semBin .Mult (.list [tx [45]]) (.int (w : Int)) = some (true, .list ((List.replicate w 45).map fun c => tx [c])) := by
    have e : (decide (-(2 ^ 63) ≤ (w : Int)) && decide ((w : Int) < 2 ^ 63) && fits ([tx [45]].length * (w : Int).toNat)) = true := by
      simp only [Bool.and_eq_true, decide_eq_true_eq, fits]
      refine ⟨⟨by omega, by omega⟩, ?_⟩
      simp
      exact sz _ (by omega)
    simp only [semBin]
    rw [if_pos e]
    simp
  have zl : ∀ m : Bool, zipR (.fr m (intsD ps)) (.fr false (tx s)) = .ok (m || false, List.zipWith (fun d e => .tuple [d, e]) (ps.map fun p : Nat => .int (p : Int)) (s.map fun c => tx [c])) := fun m => zipR_ok (by rfl) (by rfl) (by rfl) (items_tx s)
  simp [mf5, startE, ml, zl, sz 1 (by decide), -List.map_replicate]
  obtain ⟨I, hI⟩ : ∃ I : Nat → List Sl → Prop, ∀ i e, I i e = ∃ (s4 s5 : Sl) (m : Bool) (r : Tx), e = [.fr false (.int (w : Int)), .fr true (intsD ps), .fr false (tx s), .ow m (.list (r.map fun c => tx [c])), s4, s5] ∧ Row w r ∧ TellsR ps r := ⟨_, fun _ _ => rfl⟩
  refine fs_for I ?_ (fun i d e hd h => ?_) (fun e h => ?_)
  · rw [hI]
    exact ⟨_, _, _, _, rfl, ⟨by simp, fun c hc => .inr (.inr (List.eq_of_mem_replicate hc))⟩, fun i x h hx => absurd (List.eq_of_mem_replicate (List.mem_of_getElem? h)) hx⟩
  · rw [hI] at h
    obtain ⟨s4, s5, m, r, rfl, hr, ht⟩ := h
    obtain ⟨hi, hj, rfl⟩ := zip_at hd
    have hpi := hp _ (List.getElem_mem hi)
    have hsj := hs _ (List.getElem_mem hj)
    have hm : ps[i] ∈ ps := List.getElem_mem hi
    generalize ps[i] = p at *
    generalize s[i] = c at *
    have ij : ixN r.length (p : Int) = some p := ixN_nat (by rw [hr.1]; exact hpi)
    simp [ij]
    rw [show (r.map fun c => tx [c]).set p (tx [c]) = (r.set p c).map fun c => tx [c] by simp [List.map_set], hI]
    refine ⟨_, _, _, _, rfl, setRow hr hsj, fun j x h hx => ?_⟩
    by_cases e : p = j
    · rw [← e]; exact hm
    · rw [List.getElem?_set_ne e] at h
      exact ht j x h hx
  · rw [hI] at h
    obtain ⟨s4, s5, m, r, rfl, hr, ht⟩ := h
    simp [M.join_sg (l := r) (by rw [hr.1]; omega)]
    exact q r hr ht
def GoodR (w : Nat) (T : List Nat) (r : Ru) : Prop := RuOk w r ∧ TellsR T r.2.2
theorem counting_ok {X : Str → Prop} {K : Rv → Prop} (L : List Int) {w : Nat} (hw : w ≤ 900) (ps : List Nat) (hl : ps.length ≤ 20) (hp : ∀ p ∈ ps, p < w) (goal : Nat) (hg : goal < w) (way : Int) (q : ∀ m (rs : List Ru), rs.length ≤ 30 → (∀ r ∈ rs, GoodR w (goal :: ps) r) → K (.ow m (.list (rs.map rl)))) : RS X (fn6 [scr L, .int (w : Int), intsD ps, .int (goal : Int), .int way]) K := by
  have mulc : ∀ c n : Nat, n ≤ 900 → semBin .Mult (tx [c]) (.int (n : Int)) = some (false, tx (List.replicate n c)) := fun c n hn => by
    rw [mul_tx (a := [c]) (sz _ (by simp; omega)) (by omega)]
    simp
  have len0 : s_len [intsD ps] = some (false, .int (ps.length : Int)) := by unfold intsD; rw [len_list, List.length_map]
  have bits : ∀ (c n : Nat), (c = 48 ∨ c = 49) → ∀ x ∈ List.replicate n c, Sg x := fun c n h x hx => by
    rw [List.eq_of_mem_replicate hx]
    rcases h with h | h
    · exact .inl h
    · exact .inr (.inl h)
  have up : ∀ {r : Tx}, TellsR ps r → TellsR (goal :: ps) r := fun h i x e n => List.mem_cons_of_mem _ (h i x e n)
  have dr : ∀ k many : Int, 0 ≤ k ∧ k < 1000000 → 0 < many → fn0 [scr L, .int k, .int many] = .ok (.fr false (.int (drI L k many))) := fun k many h1 h2 => M.lDraw_eq L k many h1 h2
  have dashR : Row w (List.replicate w 45) := ⟨by simp, fun c hc => .inr (.inr (List.eq_of_mem_replicate hc))⟩
  have dashT : TellsR (goal :: ps) (List.replicate w 45) := fun i x h hx => absurd (List.eq_of_mem_replicate (List.mem_of_getElem? h)) hx
  refine rs_run ?_
  have r1 : rg1 (.int (ps.length : Int)) = .ok (false, rngD 0 ps.length) := rg1_nat _ (by omega)
  simp [-fs_if, mf6, startE, len0, mulc 49 ps.length (by omega), e_call at6_5, sz 1 (by decide), sz 3 (by decide), mulc 48 ps.length (by omega), r1]
  refine rowAt_ok hw ps hp _ (bits 49 _ (.inr rfl)) fun a ha ta => ?_
  simp [-fs_if, mulc 48 ps.length (by omega), e_call at6_5, sz 3 (by decide), sz 1 (by decide)]
  refine rowAt_ok hw ps hp _ (bits 48 _ (.inl rfl)) fun b hb tb => ?_
  simp [-fs_if, sz 3 (by decide), sz 1 (by decide), r1]
  obtain ⟨I, hI⟩ : ∃ I : Nat → List Sl → Prop, ∀ i e, I i e = ∃ (s7 s8 : Sl) (m : Bool) (rs : List Ru), e = [.fr true (scr L), .fr false (.int (w : Int)), .fr true (intsD ps), .fr false (.int (goal : Int)), .fr false (.int way), .fr false (.int (ps.length : Int)), .ow m (.list (rs.map rl)), s7, s8, .no, .no] ∧ rs.length = i + 1 ∧ ∀ r ∈ rs, GoodR w (goal :: ps) r := ⟨_, fun _ _ => rfl⟩
  refine fs_for I ?_ (fun i d e hd h => ?_) (fun e h => ?_)
  · rw [hI]
    exact ⟨_, _, _, [(a, passT, b)], rfl, rfl, fun r hr => by rw [List.mem_singleton.mp hr]; exact ⟨⟨ha, hb, .inl rfl⟩, up tb⟩⟩
  · rw [hI] at h
    obtain ⟨s7, s8, m, rs, rfl, hrl, hr⟩ := h
    obtain ⟨hi, rfl⟩ := rngD_at hd
    have few : rs.length < sizeLine := slt (by omega)
    simp [-fs_if, mulc 49 i (by omega), mulc 48 i (by omega), add_tx (a := List.replicate i 49) (b := [48]) (sz _ (by simp; omega)), add_tx (a := List.replicate i 48) (b := [49]) (sz _ (by simp; omega)), e_call at6_5]
    refine rowAt_ok hw ps hp _ (fun x hx => ?_) fun a ha ta => ?_
    · rcases List.mem_append.mp hx with hx | hx
      · exact bits 49 _ (.inr rfl) x hx
      · rw [List.mem_singleton.mp hx]; exact .inl rfl
    simp [-fs_if, mulc 49 i (by omega), mulc 48 i (by omega), add_tx (a := List.replicate i 48) (b := [49]) (sz _ (by simp; omega)), e_call at6_5]
    refine rowAt_ok hw ps hp _ (fun x hx => ?_) fun b hb tb => ?_
    · rcases List.mem_append.mp hx with hx | hx
      · exact bits 48 _ (.inl rfl) x hx
      · rw [List.mem_singleton.mp hx]; exact .inr (.inl rfl)
    simp [-fs_if, sz 3 (by decide), few]
    rw [hI]
    refine ⟨_, _, _, rs ++ [(a, passT, b)], by rw [List.map_append]; rfl, by simp [hrl], fun r h => ?_⟩
    rcases List.mem_append.mp h with h | h
    · exact hr r h
    · rw [List.mem_singleton.mp h]; exact ⟨⟨ha, hb, .inl rfl⟩, up tb⟩
  · rw [hI] at h
    obtain ⟨s7, s8, m, rs, rfl, hrl, hr⟩ := h
    simp [-fs_if, e_call at6_1]
    refine M.lTurned_ok (Γ := ft1) ⟨_, 0, at1_0⟩ rl L 40 (by omega) rs (by rw [hrl, rngD_len]; omega) fun m rs' hp' => ?_
    have hrl' : rs'.length ≤ 25 := by
      rw [hp'.length_eq, hrl, rngD_len]
      omega
    have hr' : ∀ r ∈ rs', GoodR w (goal :: ps) r := fun r h => hr r (hp'.mem_iff.mp h)
    have few : rs'.length < sizeLine := slt (by omega)
    simp [-fs_if, ans_imms (imms_rl _), r1]
    refine lc_rng (P := Sg) (fun i hi => ?_) fun v hv hvs => ?_
    · obtain ⟨x, ex, hx⟩ := dr_nat L (50 + i) (many := 2) (by omega)
      obtain ⟨y, hy, ey⟩ := ix_01 (x : Int) (by omega) (by omega)
      have ex : drI L (50 + i) 2 = (x : Int) := ex
      simp [lcT, e_call at6_0, dr (50 + i) 2 (by omega) (by omega), ex, ey]
      exact ⟨y, hy.sg, rfl⟩
    have fps := sz _ (show ps.length ≤ 16777216 by omega)
    simp [-fs_if, M.join_sg (l := v) (by omega), rngD_len, fps, e_call at6_5]
    refine rowAt_ok hw ps hp _ hvs fun a ha ta => ?_
    have md := mulc 45 w hw
    have fin : ∀ (s : List Ru), s.length ≤ 30 → (∀ r ∈ s, GoodR w (goal :: ps) r) → K (.ow false (.list (s.map rl))) := fun s h1 h2 => q _ s h1 h2
    simp [-fs_if]
    rw [fs_if]
    refine ⟨fun _ => ?_, fun _ => ?_⟩
    · simp [md, sz 3 (by decide), few]
      refine fin ((a, dropT, List.replicate w 45) :: rs') (by rw [List.length_cons]; omega) fun r h => ?_
      rcases List.mem_cons.mp h with h | h
      · rw [h]; exact ⟨⟨ha, dashR, .inr rfl⟩, dashT⟩
      · exact hr' r h
    · simp [-fs_if]
      rw [fs_if]
      refine ⟨fun _ => ?_, fun _ => ?_⟩
      · simp [sz 1 (by decide), e_call at6_5]
        refine rowAt_ok hw [goal] (fun p hp => by rw [List.mem_singleton.mp hp]; exact hg) [49] (fun x hx => by rw [List.mem_singleton.mp hx]; exact .inr (.inl rfl)) fun b hb tb => ?_
        simp [sz 3 (by decide), few]
        refine fin ((a, passT, b) :: rs') (by rw [List.length_cons]; omega) fun r h => ?_
        rcases List.mem_cons.mp h with h | h
        · rw [h]; exact ⟨⟨ha, hb, .inl rfl⟩, fun i x e n => by have := tb i x e n; rw [List.mem_singleton.mp this]; exact List.mem_cons_self⟩
        · exact hr' r h
      · simp
        exact fin rs' (by omega) hr'
theorem min_ii (i j : Int) : semBi "min" [.int i, .int j] = some (false, .int (if j < i then j else i)) := by
  unfold semBi
  repeat rw [if_neg (by decide)]
  rw [if_pos rfl]
  rfl
theorem cut_toP (ps : List Nat) (k : Nat) : semSl (intsD ps) none (some (k : Int)) = some (true, intsD (ps.take k)) := by
  unfold intsD
  rw [En.sl_list, cut_to, List.map_take]
/-- what is built -/
structure Built (N : Nt) (lay : List Fd) (sp : Nat × Nat) (w : Nat) (names : List Tx) (d0 : Tx) : Prop where
  lay : N.lay = lay
  ok : NtOk N sp w
  told : ∃ T : List Nat, T.length ≤ 6 ∧ Tells N T
  spots : (spotsL N).length ≤ 100
  few : 1 ≤ N.hs.length ∧ N.hs.length ≤ 9
  door : ∀ h ∈ N.hs, d0 ∈ h.2.1.map (·.1)
  name : ∀ i, i < N.hs.length → ∃ x, names[i]? = some x ∧ x ∈ N.hs.map (·.1)
structure GoodH (w b : Nat) (T : List Nat) (d : Nat → Tx) (n0 : Tx) (h : Nh) : Prop where
  ok : HoOk w b h.2
  told : ∀ g ∈ h.2.1, ∀ r ∈ g.2, TellsR T r.2.2
  d01 : d 0 ∈ h.2.1.map (·.1) ∧ d 1 ∈ h.2.1.map (·.1)
  d23 : h.1 = n0 → d 2 ∈ h.2.1.map (·.1) ∧ d 3 ∈ h.2.1.map (·.1)
  few : h.2.1.length ≤ 4
def GoodS (d : Nat → Tx) (n0 : Tx) (ns : List Tx) (s : Spt) : Prop := s.1 ∈ ns ∧ (s.2 = d 0 ∨ s.2 = d 1 ∨ (s.1 = n0 ∧ (s.2 = d 2 ∨ s.2 = d 3)))
theorem built_of {lay : List Fd} {f b w : Nat} {names : List Tx} {d : Nat → Tx} {n0 : Tx} {T : List Nat} (h1 : spanOf toT lay 0 = some (f, b)) (h2 : wid lay = w) (h3 : w ≤ 900) (h4 : lay.length ≤ 10) (h5 : ∀ p ∈ lay, Sm p.1) (hT : T.length ≤ 6) {n : Nat} (hn : 1 ≤ n) (hn9 : n ≤ 9) (h9 : names.length = 9) (nd : names.Nodup) (sm : ∀ x ∈ names, Sm x) {hs hs' : List Nh} {ls ls' : List Ln} (e : hs.map (·.1) = names.take n) (gh : ∀ h ∈ hs, GoodH w (b - f) T d n0 h) (gl : ∀ l ∈ ls, GoodS d n0 (names.take n) l.1 ∧ GoodS d n0 (names.take n) l.2) (fl : ls.length ≤ 100) (p : hs'.Perm hs) (pl : ls'.Perm ls) : Built ⟨lay, hs', ls'⟩ lay (f, b) w names (d 0) := by
  have hl : hs.length = n := by
    have := congrArg List.length e
    rw [List.length_map, List.length_take, h9] at this
    omega
  have hl' : hs'.length = n := by rw [p.length_eq, hl]
  have ndh : (hs'.map (·.1)).Nodup := by
    refine (p.map _).nodup_iff.mpr ?_
    rw [e]
    exact nd.sublist (List.take_sublist _ _)
  have mem : ∀ h ∈ hs', h ∈ hs := fun h hh => p.mem_iff.mp hh
  have nm : ∀ x, x ∈ names.take n → x ∈ hs'.map (·.1) := fun x hx => by
    rw [← e] at hx
    exact (p.map _).mem_iff.mpr hx
  have spot : ∀ s, GoodS d n0 (names.take n) s → SpIn ⟨lay, hs', ls'⟩ s := fun s ⟨a, c⟩ => by
    obtain ⟨h, hh, e1⟩ := List.mem_map.mp (nm s.1 a)
    have g := gh h (mem h hh)
    refine ⟨h.2, ?_, ?_⟩
    · rw [← e1]
      exact look_at ndh hh
    · rcases c with c | c | ⟨c0, c | c⟩ <;> rw [c]
      · exact g.d01.1
      · exact g.d01.2
      · exact (g.d23 (e1.trans c0)).1
      · exact (g.d23 (e1.trans c0)).2
  refine ⟨rfl, ⟨h1, ⟨h2, h3⟩, ⟨by show lay.length ≤ 1000; omega, h5⟩, ndh, ⟨by show hs'.length ≤ 1000; omega, by show ls'.length ≤ 1000; rw [pl.length_eq]; omega⟩, fun h hh => ⟨?_, (gh h (mem h hh)).ok⟩, fun l hl => ?_⟩, ⟨T, hT, fun h hh g hg r hr => (gh h (mem h hh)).told g hg r hr⟩, ?_, by show 1 ≤ hs'.length ∧ hs'.length ≤ 9; omega, fun h hh => (gh h (mem h hh)).d01.1, fun i hi => ?_⟩
  · have : h.1 ∈ hs.map (·.1) := List.mem_map_of_mem (mem h hh)
    rw [e] at this
    exact sm _ (List.mem_of_mem_take this)
  · have := gl l (pl.mem_iff.mp hl)
    exact ⟨spot _ this.1, spot _ this.2⟩
  · have : ∀ hs : List Nh, (∀ h ∈ hs, h.2.1.length ≤ 4) → (hs.flatMap fun h => h.2.1.map fun g => (h.1, g.1)).length ≤ 4 * hs.length := by
      intro hs
      induction hs with
      | nil => intro _; simp
      | cons h hs ih =>
        intro H
        have := ih fun x hx => H x (List.mem_cons_of_mem _ hx)
        have := H h List.mem_cons_self
        rw [List.flatMap_cons, List.length_append, List.length_map, List.length_cons]
        omega
    have := this hs' fun h hh => (gh h (mem h hh)).few
    show (hs'.flatMap fun h => h.2.1.map fun g => (h.1, g.1)).length ≤ 100
    omega
  · have hi : i < hs'.length := hi
    have hin : i < names.length := by omega
    refine ⟨names[i], List.getElem?_eq_getElem hin, nm _ ?_⟩
    rw [List.mem_take_iff_getElem]
    exact ⟨i, by omega, rfl⟩
def atT (l : List Tx) (i : Nat) : Tx := l.getD i []
theorem atT_eq {l : List Tx} {i : Nat} (h : i < l.length) : atT l i = l[i] := by simp [atT, List.getD, List.getElem?_eq_getElem h]
def GoodRs (w : Nat) (T : List Nat) (rs : List Ru) : Prop := ∀ r ∈ rs, GoodR w T r
def WsOk (d1 d3 : Tx) (ws : List Wy) : Prop := ws = [([48], d1)] ∨ ws = [([48], d1), ([49], d3)]
def freeR (w : Nat) : Ru := (List.replicate w 45, passT, List.replicate w 45)
theorem free_ok (w : Nat) (T : List Nat) : GoodR w T (freeR w) := by
  have h : Row w (List.replicate w 45) := ⟨by simp, fun c hc => .inr (.inr (List.eq_of_mem_replicate hc))⟩
  exact ⟨⟨h, h, .inl rfl⟩, fun i x h hx => absurd (List.eq_of_mem_replicate (List.mem_of_getElem? h)) hx⟩
theorem goodH_0 {w f b : Nat} {ps : List Nat} {rs : List Ru} {d0 d1 d2 d3 n0 : Tx} {ws : List Wy} {G : List Gt} {W : List Wy} (hfb : f < b) (dn : [d0, d1, d2, d3].Nodup) (ds : ∀ x ∈ [d0, d1, d2, d3], Sm x) (hrl : rs.length ≤ 30) (hr : GoodRs w (f :: ps) rs) (hws : WsOk d1 d3 ws) (pG : G.Perm [(d0, rs), (d1, []), (d2, [freeR w]), (d3, [freeR w])]) (pW : W.Perm ws) : GoodH w (b - f) (f :: ps) (fun i => [d0, d1, d2, d3].getD i []) n0 (n0, (G, W)) := by
  have gd : (G.map (·.1)).Perm [d0, d1, d2, d3] := pG.map _
  have mem : ∀ x, x ∈ [d0, d1, d2, d3] → x ∈ G.map (·.1) := fun x hx => gd.mem_iff.mpr hx
  have gr : ∀ g ∈ G, (g.1 ∈ [d0, d1, d2, d3]) ∧ g.2.length ≤ 30 ∧ GoodRs w (f :: ps) g.2 := fun g hg => by
    have := pG.mem_iff.mp hg
    simp only [List.mem_cons, List.not_mem_nil, or_false] at this
    rcases this with rfl | rfl | rfl | rfl
    · exact ⟨by simp, hrl, hr⟩
    · exact ⟨by simp, by simp, fun r h => nomatch h⟩
    · exact ⟨by simp, by simp, fun r h => by rw [List.mem_singleton.mp h]; exact free_ok _ _⟩
    · exact ⟨by simp, by simp, fun r h => by rw [List.mem_singleton.mp h]; exact free_ok _ _⟩
  have wl : W.length ≤ 2 := by
    rw [pW.length_eq]
    rcases hws with h | h <;> rw [h] <;> simp
  refine ⟨⟨gd.nodup_iff.mpr dn, ⟨by rw [pG.length_eq]; simp, by show W.length ≤ 1000; omega⟩, fun g hg => ⟨ds _ (gr g hg).1, by have := (gr g hg).2.1; omega, fun r h => ((gr g hg).2.2 r h).1⟩, ?_, fun v hv => ?_⟩, fun g hg r h => ((gr g hg).2.2 r h).2, ⟨mem _ (by simp), mem _ (by simp)⟩, fun _ => ⟨mem _ (by simp), mem _ (by simp)⟩, by rw [pG.length_eq]; simp⟩
  · refine (pW.map _).nodup_iff.mpr ?_
    rcases hws with h | h <;> rw [h] <;> simp
  · have hv := pW.mem_iff.mp hv
    have l0 : Ltr 1 [48] := ⟨rfl, fun c hc => .inl (List.mem_singleton.mp hc)⟩
    have l1 : Ltr 1 [49] := ⟨rfl, fun c hc => .inr (List.mem_singleton.mp hc)⟩
    rcases hws with h | h <;> rw [h] at hv <;> simp only [List.mem_cons, List.not_mem_nil, or_false] at hv
    · rw [hv]
      exact ⟨l0, by show 1 ≤ b - f; omega, mem _ (by simp)⟩
    · rcases hv with rfl | rfl
      · exact ⟨l0, by show 1 ≤ b - f; omega, mem _ (by simp)⟩
      · exact ⟨l1, by show 1 ≤ b - f; omega, mem _ (by simp)⟩
theorem goodH_n {w f b : Nat} {ps : List Nat} {d0 d1 d2 d3 n0 x : Tx} (dn : [d0, d1, d2, d3].Nodup) (ds : ∀ x ∈ [d0, d1, d2, d3], Sm x) (hx : x ≠ n0) : GoodH w (b - f) (f :: ps) (fun i => [d0, d1, d2, d3].getD i []) n0 (x, ([(d0, [freeR w]), (d1, [])], [([], d1)])) := by
  have d01 : d0 ≠ d1 := by
    simp only [List.nodup_cons, List.mem_cons, not_or] at dn
    exact dn.1.1
  refine ⟨⟨by simp [d01], by simp, fun g hg => ?_, by simp, fun v hv => ?_⟩, fun g hg r h => ?_, by simp, fun h => absurd h hx, by simp⟩
  · simp only [List.mem_cons, List.not_mem_nil, or_false] at hg
    rcases hg with rfl | rfl
    · exact ⟨ds _ (by simp), by simp, fun r h => by rw [List.mem_singleton.mp h]; exact (free_ok w []).1⟩
    · exact ⟨ds _ (by simp), by simp, fun r h => nomatch h⟩
  · rw [List.mem_singleton.mp hv]
    exact ⟨⟨rfl, fun c hc => nomatch hc⟩, Nat.zero_le _, by simp⟩
  · simp only [List.mem_cons, List.not_mem_nil, or_false] at hg
    rcases hg with rfl | rfl
    · rw [List.mem_singleton.mp h]; exact (free_ok w _).2
    · nomatch h
theorem ring_ok {X : Str → Prop} {K : Rv → Prop} (L : List Int) {lay : List Fd} {f b w : Nat} {names : List Tx} {d0 d1 d2 d3 : Tx} (h1 : spanOf toT lay 0 = some (f, b)) (hfb : f < b) (h2 : wid lay = w) (h3 : w ≤ 900) (h4 : lay.length ≤ 10) (h5 : ∀ p ∈ lay, Sm p.1) (h9 : names.length = 9) (nd : names.Nodup) (sm : ∀ x ∈ names, Sm x) (dn : [d0, d1, d2, d3].Nodup) (ds : ∀ x ∈ [d0, d1, d2, d3], Sm x) (q : ∀ m N, Built N lay (f, b) w names d0 → K (.fr m (nt N))) : RS X (fn7 [scr L, .list (lay.map fl), .list ([d0, d1, d2, d3].map tx), .list (names.map tx)]) K := by
  have dr : ∀ k many : Int, 0 ≤ k ∧ k < 1000000 → 0 < many → fn0 [scr L, .int k, .int many] = .ok (.fr false (.int (drI L k many))) := fun k many h1 h2 => M.lDraw_eq L k many h1 h2
  have sp := span_le h1
  have wle : b ≤ w := by omega
  have lw : fn3 [.list (lay.map fl)] = .ok (.fr false (.int (w : Int))) := by rw [← h2]; exact M.layoutWidth_eq lay (by omega)
  have r1 : rg1 (.int (w : Int)) = .ok (false, rngD 0 w) := rg1_nat _ (by omega)
  have s1 := sz 1 (by decide)
  have s2 := sz 2 (by decide)
  have s3 := sz 3 (by decide)
  have s4 := sz 4 (by decide)
  have nm : ∀ i : Nat, i < 9 → semIx (.list (names.map tx)) (.int (i : Int)) = some (tx (atT names i)) := fun i hi => ix_list (by rw [List.getElem?_map, List.getElem?_eq_getElem (by omega), atT_eq (show i < names.length by omega)]; rfl)
  have nm0 : semIx (.list (names.map tx)) (.int 0) = some (tx (atT names 0)) := nm 0 (by omega)
  have dx3 : semIx (.list [tx d0, tx d1, tx d2, tx d3]) (.int 3) = some (tx d3) := ix_list (l := [tx d0, tx d1, tx d2, tx d3]) (i := 3) rfl
  have md : semBin .Mult (tx [45]) (.int (w : Int)) = some (false, tx (List.replicate w 45)) := by
    rw [mul_tx (a := [45]) (sz _ (by simp; omega)) (by omega)]
    simp
  obtain ⟨way, ew, hw0, hw3⟩ : ∃ way : Int, (if drI L 10 6 < 3 then drI L 10 6 else 3) = way ∧ 0 ≤ way ∧ way ≤ 3 := ⟨_, rfl, by have := dr_ge L 10 (many := 6) (by decide); split <;> omega, by split <;> omega⟩
  have lsp : fn4 [.list (lay.map fl)] = .ok (.fr false (.tuple [.int (f : Int), .int (b : Int)])) := by
    obtain ⟨a, e, rfl⟩ := rs_eq (M.lSpan_ok (Γ := ft4) (n := 0) (X := fun _ => False) (K := fun v => v = .fr false (.tuple [.int (f : Int), .int (b : Int)])) lay h1 rfl)
    exact e
  refine rs_run ?_
  refine fs_at 5 (fun e => ∃ (s8 : Sl) (ps : List Nat) (rs : List Ru), ps.length ≤ 5 ∧ rs.length ≤ 30 ∧ GoodRs w (f :: ps) rs ∧ e = [.fr true (scr L), .fr true (.list (lay.map fl)), .fr true (.list ([d0, d1, d2, d3].map tx)), .fr true (.list (names.map tx)), .fr false (.int (w : Int)), .fr false (.int (f : Int)), .fr false (.int (b : Int)), .fr false (.int way), s8, .fr false (.list (rs.map rl)), .no, .no, .no, .no, .no, .no, .no, .no, .no]) ?_ ?_
  · simp [-fs_if, mf7, takeS, startE, e_call at7_3, e_call at7_4, e_call at7_0, e_call at7_1, e_call at7_6, lw, lsp, dr, min_ii, ew, r1]
    refine rs_lc (fun i m l => m = false ∧ ∃ A : List Nat, l = A.map (fun p : Nat => PyData.int (p : Int)) ∧ (∀ p ∈ A, p < w) ∧ A.length ≤ i) ⟨rfl, [], rfl, by simp, by simp⟩ (fun i x m l hd h => ?_) (fun m l h => ?_)
    · obtain ⟨rfl, A, rfl, hA, hAl⟩ := h
      obtain ⟨hi, rfl⟩ := rngD_at hd
      have hi' : i < w := by simpa [rngD] using hi
      simp [lcT]
      have keep : ∃ A' : List Nat, A.map (fun p : Nat => PyData.int (p : Int)) = A'.map (fun p : Nat => PyData.int (p : Int)) ∧ (∀ p ∈ A', p < w) ∧ A'.length ≤ i + 1 := ⟨A, rfl, hA, by omega⟩
      have more : ∃ A' : List Nat, A.map (fun p : Nat => PyData.int (p : Int)) ++ [.int (i : Int)] = A'.map (fun p : Nat => PyData.int (p : Int)) ∧ (∀ p ∈ A', p < w) ∧ A'.length ≤ i + 1 := ⟨A ++ [i], by simp, fun p hp => by
        rcases List.mem_append.mp hp with hp | hp
        · exact hA p hp
        · rw [List.mem_singleton.mp hp]; exact hi', by rw [List.length_append, List.length_singleton]; omega⟩
      by_cases hc : i < f ∨ b ≤ i
      · by_cases h1 : i < f
        · simp [h1]
          exact more
        · have h2 : b ≤ i := by omega
          simp [h1, h2]
          exact more
      · have h1 : ¬ i < f := by omega
        have h2 : ¬ b ≤ i := by omega
        simp [h1, h2]
        exact keep
    · obtain ⟨rfl, A, rfl, hA, hAl⟩ := h
      rw [rngD_len] at hAl
      have fw := sz _ (show w ≤ 16777216 by omega)
      simp [-fs_if, rngD_len, fw]
      refine M.lTurned_ok (Γ := ft1) ⟨_, 0, at1_0⟩ (fun p : Nat => PyData.int (p : Int)) L 60 (by omega) A (by omega) fun m A' hp => ?_
      have hA' : ∀ p ∈ A', p < w := fun p h => hA p (hp.mem_iff.mp h)
      have im : imms (A'.map fun p : Nat => PyData.int (p : Int)) = true := imms_mapH (fun a => imm_int _) A'
      have fold : (PyData.list (A'.map fun p : Nat => PyData.int (p : Int)) : D) = intsD A' := rfl
      have an : ∀ l m, ans l (.ow m (intsD A')) = .ok (.ow false (intsD A')) := fun l m => ans_imms im
      simp only [fold]
      obtain ⟨z, ez, hz⟩ : ∃ z : Nat, (if way % 3 = 0 then (1 : Int) else 0) = (z : Int) ∧ z ≤ 1 := by
        split
        · exact ⟨1, rfl, by omega⟩
        · exact ⟨0, rfl, by omega⟩
      obtain ⟨k, ek, hk⟩ := dr_nat L 11 (many := 4 + z) (by omega)
      have ek : drI L 11 (4 + (z : Int)) = (k : Int) := by rw [← ek]; congr 1
      have cp := cut_toP A' (1 + k)
      rw [show ((1 + k : Nat) : Int) = 1 + (k : Int) by omega] at cp
      have si : ∀ t : Bool, s_int [.bool t] = some (false, .int (if t then 1 else 0)) := fun t => rfl
      simp [-fs_if, an, En.mod_int, si, ez, dr 11 (4 + z) (by omega) (by omega), ek, cp]
      have lt : (A'.take (1 + k)).length ≤ 5 := by rw [List.length_take]; omega
      refine counting_ok L h3 (A'.take (1 + k)) (by omega) (fun p h => hA' p (List.mem_of_mem_take h)) f (by omega) way fun m rs hl hr => ?_
      simp [-fs_if]
      exact ⟨_, _, lt, rs, hl, hr, rfl, rfl⟩
  · rintro e ⟨s8, ps, rs, hl, hrl, hr, rfl⟩
    have sdash : Row w (List.replicate w 45) := ⟨by simp, fun c hc => .inr (.inr (List.eq_of_mem_replicate hc))⟩
    simp [-fs_if, mf7, dropS, md, s1, s2, s3, s4]
    refine fs_cut (fun e => ∃ ws : List Wy, WsOk d1 d3 ws ∧ e = [.fr true (scr L), .fr true (.list (lay.map fl)), .fr true (.list [tx d0, tx d1, tx d2, tx d3]), .fr true (.list (names.map tx)), .fr false (.int (w : Int)), .fr false (.int (f : Int)), .fr false (.int (b : Int)), .fr false (.int way), s8, .fr false (.list (rs.map rl)), .fr false (.list [.tuple [tx (List.replicate w 45), tx passT, tx (List.replicate w 45)]]), .ow false (.list (ws.map wy)), .no, .no, .no, .no, .no, .no, .no]) (fun _ => ?_) (fun _ => ?_) ?_
    · simp [dx3, s2, slt (show 1 < 16777216 by decide)]
      exact ⟨_, .inr rfl, rfl⟩
    · simp
      exact ⟨_, .inl rfl, rfl⟩
    · rintro e ⟨ws, hws, rfl⟩
      obtain ⟨Mn, eM, hM⟩ := dr_nat L 12 (many := 7) (by omega)
      have eM : drI L 12 7 = (Mn : Int) := eM
      obtain ⟨A, eA, hA⟩ := dr_nat L 13 (many := 3) (by omega)
      have eA : drI L 13 3 = (A : Int) := eA
      have n62 : ∀ x : Nat, x ≤ 20 → (-(2 ^ 62) ≤ (x : Int) ∧ (x : Int) < 2 ^ 62) := fun x hx => by omega
      simp [-fs_if, dx3, s1, s2, s3, s4, e_call at7_0, e_call at7_1, dr, nm0, eM, eA]
      refine M.lTurned_ok (Γ := ft1) ⟨_, 0, at1_0⟩ gt L 110 (by omega) [(d0, rs), (d1, []), (d2, [freeR w]), (d3, [freeR w])] (by simp) fun m G pG => ?_
      simp [-fs_if, e_call at7_1, nm0]
      refine M.lTurned_ok (Γ := ft1) ⟨_, 0, at1_0⟩ wy L 114 (by omega) ws (by rcases hws with h | h <;> rw [h] <;> simp) fun m W pW => ?_
      have nmM := nm Mn (by omega)
      rw [show (Mn : Int) = 1 + (Mn : Int) - 1 by omega] at nmM
      simp [-fs_if, s1, s2, nm0, nmM]
      refine ⟨by omega, ?_⟩
      have hn : (1 + (Mn : Int) + (A : Int)).toNat - 1 = Mn + A := by omega
      rw [hn]
      have n0m : atT names 0 = names[0] := atT_eq (by omega)
      have nin : ∀ i, i < 1 + Mn + A → atT names i ∈ names.take (1 + Mn + A) := fun i hi => by
        rw [List.mem_take_iff_getElem]
        exact ⟨i, by omega, (atT_eq (by omega)).symm⟩
      have gs : ∀ i, i < 1 + Mn + A → GoodS (fun i => [d0, d1, d2, d3].getD i []) names[0] (names.take (1 + Mn + A)) (atT names i, d0) ∧ GoodS (fun i => [d0, d1, d2, d3].getD i []) names[0] (names.take (1 + Mn + A)) (atT names i, d1) := fun i hi => ⟨⟨nin i hi, .inl rfl⟩, ⟨nin i hi, .inr (.inl rfl)⟩⟩
      have bl : semBi "list" [.list [.tuple [tx (List.replicate w 45), tx passT, tx (List.replicate w 45)]]] = some (true, .list [.tuple [tx (List.replicate w 45), tx passT, tx (List.replicate w 45)]]) := by
        unfold semBi
        rw [if_neg (by decide), if_pos rfl]
        all_goals rfl
      obtain ⟨I, hI⟩ : ∃ I : Nat → List Sl → Prop, ∀ i e, I i e = ∃ (m1 m2 : Bool) (Hs : List Nh) (ls : List Ln) (s12 s17 : Sl), e = [.fr true (scr L), .fr true (.list (lay.map fl)), .fr true (.list [tx d0, tx d1, tx d2, tx d3]), .fr true (.list (names.map tx)), .fr false (.int (w : Int)), .fr false (.int (f : Int)), .fr false (.int (b : Int)), .fr false (.int way), s8, .fr false (.list (rs.map rl)), .fr false (.list [.tuple [tx (List.replicate w 45), tx passT, tx (List.replicate w 45)]]), .fr false (.list (ws.map wy)), s12, .fr false (.int (1 + (Mn : Int))), .fr false (.int (A : Int)), .ow m1 (.list (Hs.map nh)), .ow m2 (.list (ls.map ln)), s17, .no] ∧ Hs.map (·.1) = names.take (i + 1) ∧ (∀ h ∈ Hs, GoodH w (b - f) (f :: ps) (fun i => [d0, d1, d2, d3].getD i []) names[0] h) ∧ (∀ l ∈ ls, GoodS (fun i => [d0, d1, d2, d3].getD i []) names[0] (names.take (1 + Mn + A)) l.1 ∧ GoodS (fun i => [d0, d1, d2, d3].getD i []) names[0] (names.take (1 + Mn + A)) l.2) ∧ ls.length ≤ i + 1 := ⟨_, fun _ _ => rfl⟩
      refine fs_for I ?_ (fun i x e hd h => ?_) (fun e h => ?_)
      · rw [hI]
        refine ⟨_, _, [(atT names 0, (G, W))], [((atT names Mn, d1), (atT names 0, d0))], _, _, rfl, ?_, fun h hh => ?_, fun l hl => ?_, by simp⟩
        · rw [take_get (l := names) (i := 0) (List.getElem?_eq_getElem (by omega)), n0m]
          simp
        · rw [List.mem_singleton.mp hh, n0m]
          exact goodH_0 hfb dn ds hrl hr hws pG pW
        · rw [List.mem_singleton.mp hl]
          exact ⟨(gs Mn (by omega)).2, (gs 0 (by omega)).1⟩
      · rw [hI] at h
        obtain ⟨m1, m2, Hs, ls, s12, s17, rfl, eH, gH, gl, ll⟩ := h
        obtain ⟨hi, rfl⟩ := rngD_at hd
        have hi' : i < Mn + A := by simpa [rngD] using hi
        have hHl : Hs.length = i + 1 := by
          have := congrArg List.length eH
          rw [List.length_map, List.length_take, h9] at this
          omega
        have fewH : Hs.length < sizeLine := slt (by omega)
        have fewL : ls.length < sizeLine := slt (by omega)
        have nmi := nm (1 + i) (by omega)
        rw [show ((1 + i : Nat) : Int) = 1 + (i : Int) by omega] at nmi
        have nmp := nm i (by omega)
        rw [show (i : Int) = 1 + (i : Int) - 1 by omega] at nmp
        have eH2 : (Hs ++ [(atT names (1 + i), ([(d0, [freeR w]), (d1, [])], [([], d1)]))]).map (fun h : Nh => h.1) = names.take (i + 1 + 1) := by
          rw [take_get (l := names) (i := i + 1) (List.getElem?_eq_getElem (by omega)), List.map_append, eH]
          have : atT names (1 + i) = names[i + 1] := by
            rw [show 1 + i = i + 1 by omega]
            exact atT_eq (by omega)
          rw [this]
          rfl
        have gH2 : ∀ h ∈ Hs ++ [(atT names (1 + i), ([(d0, [freeR w]), (d1, [])], [([], d1)]))], GoodH w (b - f) (f :: ps) (fun i => [d0, d1, d2, d3].getD i []) names[0] h := fun h hh => by
          rcases List.mem_append.mp hh with hh | hh
          · exact gH h hh
          · rw [List.mem_singleton.mp hh]
            refine goodH_n dn ds fun z => ?_
            have : atT names (1 + i) = names[1 + i] := atT_eq (by omega)
            rw [this] at z
            have := (List.getElem_inj nd).mp z
            omega
        have nx : ∀ (l : Ln) (s17 : Sl), (GoodS (fun i => [d0, d1, d2, d3].getD i []) names[0] (names.take (1 + Mn + A)) l.1 ∧ GoodS (fun i => [d0, d1, d2, d3].getD i []) names[0] (names.take (1 + Mn + A)) l.2) → I (i + 1) [.fr true (scr L), .fr true (.list (lay.map fl)), .fr true (.list [tx d0, tx d1, tx d2, tx d3]), .fr true (.list (names.map tx)), .fr false (.int (w : Int)), .fr false (.int (f : Int)), .fr false (.int (b : Int)), .fr false (.int way), s8, .fr false (.list (rs.map rl)), .fr false (.list [.tuple [tx (List.replicate w 45), tx passT, tx (List.replicate w 45)]]), .fr false (.list (ws.map wy)), s12, .fr false (.int (1 + (Mn : Int))), .fr false (.int (A : Int)), .ow m1 (.list (Hs.map nh ++ [nh (atT names (1 + i), ([(d0, [freeR w]), (d1, [])], [([], d1)]))])), .ow m2 (.list (ls.map ln ++ [ln l])), s17, .no] := fun l s17 hl => by
          rw [show Hs.map nh ++ [nh (atT names (1 + i), ([(d0, [freeR w]), (d1, [])], [([], d1)]))] = (Hs ++ [(atT names (1 + i), ([(d0, [freeR w]), (d1, [])], [([], d1)]))]).map nh by simp, show ls.map ln ++ [ln l] = (ls ++ [l]).map ln by simp, hI]
          refine ⟨_, _, Hs ++ [(atT names (1 + i), ([(d0, [freeR w]), (d1, [])], [([], d1)]))], ls ++ [l], _, _, rfl, eH2, gH2, fun x hx => ?_, by rw [List.length_append, List.length_singleton]; omega⟩
          rcases List.mem_append.mp hx with hx | hx
          · exact gl x hx
          · rw [List.mem_singleton.mp hx]; exact hl
        simp [-fs_if, nmi, s1, s2, bl, fewH, fewL]
        rw [fs_if]
        refine ⟨fun hlt => ?_, fun hlt => ?_⟩
        · simp [nmp, s2]
          exact nx ((atT names i, d1), (atT names (1 + i), d0)) _ ⟨(gs i (by omega)).2, (gs (1 + i) (by omega)).1⟩
        · simp [-fs_if]
          rw [fs_if]
          refine ⟨fun he => ?_, fun he => ?_⟩
          · simp [nm0, s2]
            exact nx ((atT names 0, d2), (atT names (1 + i), d1)) _ ⟨⟨nin 0 (by omega), .inr (.inr ⟨n0m, .inl rfl⟩)⟩, (gs (1 + i) (by omega)).2⟩
          · simp [nmp, s2]
            exact nx ((atT names i, d0), (atT names (1 + i), d1)) _ ⟨(gs i (by omega)).1, (gs (1 + i) (by omega)).2⟩
      · rw [hI] at h
        obtain ⟨m1, m2, Hs, ls, s12, s17, rfl, eH, gH, gl, ll⟩ := h
        have rl1 : (rngD 1 (Mn + A)).length = Mn + A := by simp [rngD]
        rw [rl1] at eH ll
        have hHl : Hs.length = Mn + A + 1 := by
          have := congrArg List.length eH
          rw [List.length_map, List.length_take, h9] at this
          omega
        simp [e_call at7_1]
        refine M.lTurned_ok (Γ := ft1) ⟨_, 0, at1_0⟩ nh L 120 (by omega) Hs (by omega) fun m Hs' pH => ?_
        simp [e_call at7_1]
        refine M.lTurned_ok (Γ := ft1) ⟨_, 0, at1_0⟩ ln L 130 (by omega) ls (by omega) fun m ls' pl => ?_
        simp [s3]
        exact q _ _ (built_of h1 h2 h3 h4 h5 (T := f :: ps) (by rw [List.length_cons]; omega) (n := 1 + Mn + A) (by omega) (by omega) h9 nd sm (by rw [show 1 + Mn + A = Mn + A + 1 by omega]; exact eH) gH gl (by omega) pH pl)
abbrev countT : Tx := [99, 111, 117, 110, 116]
abbrev restT : Tx := [114, 101, 115, 116]
abbrev harbT : Tx := [104, 97, 114, 98, 111, 117, 114]
@[simp] theorem lit_count : (PyData.str (Str.ofString "count") : D) = tx countT := (rfl)
@[simp] theorem lit_rest : (PyData.str (Str.ofString "rest") : D) = tx restT := (rfl)
@[simp] theorem lit_harb : (PyData.str (Str.ofString "harbour") : D) = tx harbT := (rfl)
theorem span_size {x : Tx} : ∀ {ps : List Fd} {a f b : Nat}, spanOf x ps a = some (f, b) → ∃ p ∈ ps, p.1 = x ∧ b = f + p.2
  | [], _, _, _, h => nomatch h
  | p :: ps, a, f, b, h => by
    unfold spanOf at h
    split at h
    · cases h
      exact ⟨p, List.mem_cons_self, ‹_›, rfl⟩
    · obtain ⟨p, hp, h1, h2⟩ := span_size h
      exact ⟨p, List.mem_cons_of_mem _ hp, h1, h2⟩
theorem first31 : M.RuleFirstAt ft30 := ⟨ft24, 0, ⟨ft23, 0, at24_23⟩, at30_24⟩
theorem does31 : M.HouseDoesAt ft31 := ⟨ft30, 0, .never, ⟨ft17, 0, at30_17⟩, ⟨ft26, 0, ⟨ft24, 0, ⟨ft23, 0, at24_23⟩, at26_24⟩, ⟨ft25, 0, at26_25⟩, at30_26⟩, first31, ⟨ft27, 0, at30_27⟩, ⟨ft29, 0, .never, ⟨ft28, 0, at29_28⟩, at30_29⟩, at31_30⟩
theorem tied31 : M.NetTiedAt ft31 .never .never := ⟨ft19, 0, ⟨ft17, 0, at19_17⟩, ⟨ft18, 0, at19_18⟩, at31_19⟩
theorem named31 : M.HouseNamedAt ft31 .never := ⟨ft18, 0, at31_18⟩
theorem letter31 : M.IsLetterAt ft31 := ⟨ft21, 0, ⟨ft20, 0, at21_20⟩, at31_21⟩
theorem walk33 : M.NetWalkAt ft33 := ⟨ft31, .never, .never, .never, .never, tied31, named31, ⟨ft22, 0, at31_22⟩, letter31, does31, at33_31⟩
theorem ldoes14 : M.LDoesAt ft14 := ⟨ft11, 0, ⟨ft8, 0, at11_8⟩, ⟨ft10, 0, at11_10⟩, ⟨ft9, 0, ⟨ft4, 0, at9_4⟩, at11_9⟩, at14_11⟩
theorem law_true (L : List Int) (hns : L.length ≤ 63) : fn34 [scr L] = .ok (.fr false (.bool true)) := by
  have dr : ∀ k many : Int, 0 ≤ k ∧ k < 1000000 → 0 < many → fn0 [scr L, .int k, .int many] = .ok (.fr false (.int (drI L k many))) := fun k many h1 h2 => M.lDraw_eq L k many h1 h2
  have s1 := sz 1 (by decide)
  have s2 := sz 2 (by decide)
  have s3 := sz 3 (by decide)
  have main : RS (fun _ => False) (fn34 [scr L]) fun v => v = .fr false (.bool true) := by
    refine rs_run ?_
    obtain ⟨G, hG⟩ : ∃ G : List Sl → Prop, ∀ e, G e = ∃ (z0 z1 z2 : Nat), 5 ≤ z0 ∧ z0 ≤ 24 ∧ 1 ≤ z1 ∧ z1 ≤ 4 ∧ 1 ≤ z2 ∧ z2 ≤ 19 ∧ e = [.fr true (scr L), .fr false (.list [.int (z0 : Int), .int (z1 : Int), .int (z2 : Int)]), .no, .no, .no, .no, .no, .no, .no, .no, .no, .no, .no, .no, .no, .no, .no, .no, .no, .no, .no] := ⟨_, fun _ => rfl⟩
    refine fs_at 2 G ?_ ?_
    · obtain ⟨a, ea, ha⟩ := dr_nat L 0 (many := 20) (by omega)
      obtain ⟨b, eb, hb⟩ := dr_nat L 1 (many := 4) (by omega)
      obtain ⟨c, ec, hc⟩ := dr_nat L 2 (many := 19) (by omega)
      have ea : drI L 0 20 = (a : Int) := ea
      have eb : drI L 1 4 = (b : Int) := eb
      have ec : drI L 2 19 = (c : Int) := ec
      have fa : (5 : Int) + (a : Int) = ((5 + a : Nat) : Int) := by omega
      have fb : (1 : Int) + (b : Int) = ((1 + b : Nat) : Int) := by omega
      have fc : (1 : Int) + (c : Int) = ((1 + c : Nat) : Int) := by omega
      simp [mf34, takeS, startE, e_call at34_0, dr, ea, eb, ec, s3]
      refine ⟨fun _ => ?_, fun _ => ?_⟩
      · rw [hG]
        exact ⟨5, 1, 1, by omega, by omega, by omega, by omega, by omega, by omega, rfl⟩
      · rw [fa, fb, fc, hG]
        exact ⟨5 + a, 1 + b, 1 + c, by omega, by omega, by omega, by omega, by omega, by omega, rfl⟩
    · intro e he
      rw [hG] at he
      obtain ⟨z0, z1, z2, h0, h0', h1, h1', h2, h2', rfl⟩ := he
      obtain ⟨G2, hG2⟩ : ∃ G : List Sl → Prop, ∀ e, G e = ∃ (lay : List Fd) (names : List Tx) (d0 d1 d2 d3 : Tx) (s1 s3 s4 s5 s6 : Sl), lay.Perm [(countT, z0), (toT, z1), (restT, z2)] ∧ names.length = 9 ∧ names.Nodup ∧ (∀ x ∈ names, Sm x) ∧ [d0, d1, d2, d3].Nodup ∧ (∀ x ∈ [d0, d1, d2, d3], Sm x) ∧ e = [.fr true (scr L), s1, .fr false (.list (lay.map fl)), s3, s4, s5, s6, .fr false (.list (names.map tx)), .fr false (.list [tx d0, tx d1, tx d2, tx d3]), .no, .no, .no, .no, .no, .no, .no, .no, .no, .no, .no, .no] := ⟨_, fun _ => rfl⟩
      refine fs_at 7 G2 ?_ ?_
      · obtain ⟨kb, ekb, hkb⟩ := dr_nat L 14 (many := 8) (by omega)
        have ekb : drI L 14 8 = (kb : Int) := ekb
        obtain ⟨st, est, hst⟩ := dr_nat L 16 (many := 26) (by omega)
        have est : drI L 16 26 = (st : Int) := est
        have sh := sl_tx (l := harbT) (sz _ (by decide)) none (some (kb : Int))
        rw [cut_to] at sh
        have lb : (harbT.take kb).length ≤ 7 := by rw [List.length_take]; show min kb 7 ≤ 7; omega
        have sb : Sm (harbT.take kb) := fun c hc => by
          have h := List.mem_of_mem_take hc
          revert c
          intro c _ h
          simp only [List.mem_cons, List.not_mem_nil, or_false] at h
          omega
        generalize harbT.take kb = B at *
        obtain ⟨p, ep, hp⟩ := dr_nat L 15 (many := B.length + 1) (by omega)
        rw [show ((B.length + 1 : Nat) : Int) = (B.length : Int) + 1 by omega] at ep
        have sl1 := sl_tx (l := B) (sz _ (by omega)) none (some (p : Int))
        have sl2 := sl_tx (l := B) (sz _ (by omega)) (some (p : Int)) none
        rw [cut_to] at sl1
        rw [cut_from] at sl2
        have l1 : (B.take p).length ≤ 8 := by rw [List.length_take]; omega
        have l2 : (B.drop p).length ≤ 8 := by rw [List.length_drop]; omega
        have m1 : Sm (B.take p) := fun c hc => sb c (List.mem_of_mem_take hc)
        have m2 : Sm (B.drop p) := fun x hx => sb x (List.mem_of_mem_drop hx)
        simp [mf34, takeS, dropS, e_call at34_0, e_call at34_1, dr, s2, s3]
        refine M.lTurned_ok (Γ := ft1) ⟨_, 0, at1_0⟩ fl L 4 (by omega) [(countT, z0), (toT, z1), (restT, z2)] (by simp) fun mm lay pl => ?_
        have il : imms (lay.map fl) = true := imms_fl lay
        have r9 : rg1 (.int 9) = .ok (false, rngD 0 9) := rg1_nat 9 (by omega)
        simp [ans_imms il, e_call at34_0, dr, ekb, est, sh, len_tx (l := B) (sz _ (by omega)), dr 15 ((B.length : Int) + 1) (by omega) (by omega), ep, r9]
        generalize B.take p = b1 at *
        generalize B.drop p = b2 at *
        refine rs_lc (fun i m l => m = false ∧ ∃ ds : List Tx, l = ds.map tx ∧ ds.length = i ∧ (∀ d ∈ ds, Sm d) ∧ ds.Nodup ∧ ∀ d ∈ ds, ∃ j y, j < i ∧ abcT[(((st : Int) + 7 * (j : Int)) % 26).toNat]? = some y ∧ d = b1 ++ y :: b2) ⟨rfl, [], rfl, rfl, by simp, by simp, by simp⟩ (fun i d m l hd' h => ?_) (fun m l h => ?_)
        · obtain ⟨rfl, ds, rfl, hl, hd, hn, hle⟩ := h
          obtain ⟨hi, rfl⟩ := rngD_at hd'
          have hi' : i < 9 := by simpa [rngD] using hi
          obtain ⟨y, hy, hy2, e⟩ := ix_abc2 (((st : Int) + 7 * (i : Int)) % 26) (by omega) (by omega)
          have mw : semBin .Mult (.int 7) (.int (i : Int)) = some (false, .int (7 * (i : Int))) := En.mul_int (by omega)
          simp [lcT, mw, En.mod_int (i := (st : Int) + 7 * (i : Int)) (j := 26) (by decide), e, sl1, sl2, add_tx (a := b1) (b := [y]) (sz _ (by simp; omega)), add_tx (a := b1 ++ [y]) (b := b2) (sz _ (by simp; omega))]
          refine ⟨ds ++ [b1 ++ y :: b2], by simp, by simp [hl], fun d h => ?_, M.nd_app hn fun h => ?_, fun d h => ?_⟩
          · rcases List.mem_append.mp h with h | h
            · exact hd d h
            · rw [List.mem_singleton.mp h]
              intro x hx
              rcases List.mem_append.mp hx with hx | hx
              · exact m1 x hx
              · rcases List.mem_cons.mp hx with hx | hx
                · rw [hx]; exact hy
                · exact m2 x hx
          · obtain ⟨j, y', hj, hy', he⟩ := hle _ h
            have e3 : y = y' := by
              have := List.append_cancel_left he
              cases this
              rfl
            subst e3
            have nd : abcT.Nodup := by unfold abcT; decide
            have e4 := (List.getElem?_inj (List.getElem?_eq_some_iff.mp hy2).1 nd).mp (hy2.trans hy'.symm)
            omega
          · rcases List.mem_append.mp h with h | h
            · obtain ⟨j, y', hj, r⟩ := hle d h
              exact ⟨j, by omega, y', r⟩
            · exact ⟨i, by omega, y, hy2, List.mem_singleton.mp h⟩
        · obtain ⟨rfl, names, rfl, hl, hd, hn, _⟩ := h
          rw [rngD_len] at hl
          have f9 := sz 9 (by decide)
          simp [rngD_len, f9, e_call at34_2]
          refine M.lNames_ok (Γ := ft2) ⟨_, 0, at2_0⟩ L 22 (by omega) 4 (by omega) fun ds dl dsm dn => ?_
          match ds, dl with
          | [d0, d1, d2, d3], _ =>
            simp
            rw [hG2]
            exact ⟨lay, names, d0, d1, d2, d3, _, _, _, _, _, pl, hl, hn, hd, dn, fun x hx => (dsm x hx).1, rfl⟩
      · intro e he
        rw [hG2] at he
        obtain ⟨lay, names, d0, d1, d2, d3, s1', s3', s4', s5', s6', pl, hl, hn, hd, dn, ds, rfl⟩ := he
        have lm : ∀ p ∈ lay, p ∈ [(countT, z0), (toT, z1), (restT, z2)] := fun p h => pl.mem_iff.mp h
        have ht : toT ∈ lay.map (·.1) := by
          refine (pl.map _).mem_iff.mpr ?_
          simp
        obtain ⟨f, b, esp⟩ := span_of (a := 0) ht
        have hfb : f < b := by
          obtain ⟨p, hp, h3, h4⟩ := span_size esp
          have := lm p hp
          simp only [List.mem_cons, List.not_mem_nil, or_false] at this
          rcases this with rfl | rfl | rfl
          · exact absurd h3 (show countT ≠ toT by decide)
          · omega
          · exact absurd h3 (show restT ≠ toT by decide)
        have ew : wid lay = z0 + z1 + z2 := by
          have := (pl.map (·.2)).sum_nat
          unfold wid
          rw [this]
          simp
          omega
        have lsm : ∀ p ∈ lay, Sm p.1 := fun p hp => by
          have := lm p hp
          simp only [List.mem_cons, List.not_mem_nil, or_false] at this
          rcases this with rfl | rfl | rfl
          · show ∀ c ∈ countT, c < 1114112
            decide
          · show ∀ c ∈ toT, c < 1114112
            decide
          · show ∀ c ∈ restT, c < 1114112
            decide
        have ll : lay.length = 3 := by rw [pl.length_eq]; rfl
        have wle : wid lay ≤ 900 := by omega
        obtain ⟨w, ew2⟩ : ∃ w, wid lay = w := ⟨_, rfl⟩
        rw [ew2] at wle
        have le := span_le esp
        rw [ew2] at le
        have lw : fn3 [.list (lay.map fl)] = .ok (.fr false (.int (w : Int))) := by rw [← ew2]; exact M.layoutWidth_eq lay (by omega)
        have lsp : fn4 [.list (lay.map fl)] = .ok (.fr false (.tuple [.int (f : Int), .int (b : Int)])) := by
          obtain ⟨a, e, rfl⟩ := rs_eq (M.lSpan_ok (Γ := ft4) (n := 0) (X := fun _ => False) (K := fun v => v = .fr false (.tuple [.int (f : Int), .int (b : Int)])) lay esp rfl)
          exact e
        have r1 : rg1 (.int (w : Int)) = .ok (false, rngD 0 w) := rg1_nat _ (by omega)
        have fw := sz _ (show w ≤ 16777216 by omega)
        simp [-fs_if, mf34, dropS, e_call at34_7]
        refine ring_ok L esp hfb ew2 wle (by omega) lsm hl hn hd dn ds fun m N hB => ?_
        obtain ⟨_, hN, ⟨T, hT, hTT⟩, hsp, hfew, hdoor, hname⟩ := hB
        simp [-fs_if, e_call at34_3, e_call at34_0, lw, r1]
        refine lc_rng (P := Bt) (fun i hi => ?_) fun l hll hlb => ?_
        · obtain ⟨x, ex, hx⟩ := dr_nat L (140 + i) (many := 2) (by omega)
          obtain ⟨y, hy, ey⟩ := ix_01 (x : Int) (by omega) (by omega)
          have ex : drI L (140 + i) 2 = (x : Int) := ex
          simp [lcT, e_call at34_0, dr (140 + i) 2 (by omega) (by omega), ex, ey]
          exact ⟨y, hy, rfl⟩
        have hlt : Ltr w l := ⟨hll, hlb⟩
        simp [-fs_if, rngD_len, fw, M.join_sg (l := l) (by omega), e_call at34_0, dr]
        obtain ⟨G3, hG3⟩ : ∃ G : List Sl → Prop, ∀ e, G e = ∃ (l : Tx) (s12 s13 : Sl), Ltr w l ∧ e = [.fr true (scr L), s1', .fr false (.list (lay.map fl)), s3', s4', s5', s6', .fr false (.list (names.map tx)), .fr false (.list [tx d0, tx d1, tx d2, tx d3]), .fr m (nt N), .fr false (.int (w : Int)), .fr false (tx l), s12, s13, .no, .no, .no, .no, .no, .no, .no] := ⟨_, fun _ => rfl⟩
        refine fs_cut G3 (fun _ => ?_) (fun _ => ?_) ?_
        · have c1 := sl_tx (l := l) (sz _ (by omega)) none (some (f : Int))
          have c2 := sl_tx (l := l) (sz _ (by omega)) (some (b : Int)) none
          rw [cut_to] at c1
          rw [cut_from] at c2
          have z0 : semBin .Mult (tx [48]) (.int ((b : Int) - (f : Int))) = some (false, tx (List.replicate (b - f) 48)) := by
            rw [show (b : Int) - (f : Int) = ((b - f : Nat) : Int) by omega, mul_tx (a := [48]) (sz _ (by simp; omega)) (by omega)]
            simp
          have k1 : (l.take f).length = f := by rw [List.length_take]; omega
          have k2 : (l.drop b).length = w - b := by rw [List.length_drop]; omega
          have b1 : ∀ c ∈ l.take f, Bt c := fun c hc => hlb c (List.mem_of_mem_take hc)
          have b2 : ∀ c ∈ l.drop b, Bt c := fun c hc => hlb c (List.mem_of_mem_drop hc)
          generalize l.take f = A1 at *
          generalize l.drop b = A2 at *
          simp [e_call at34_4, lsp, c1, c2, z0, add_tx (a := A1) (b := List.replicate (b - f) 48) (sz _ (by simp; omega)), add_tx (a := A1 ++ List.replicate (b - f) 48) (b := A2) (sz _ (by simp; omega))]
          rw [hG3]
          refine ⟨_, _, _, ⟨by simp; omega, fun c hc => ?_⟩, rfl⟩
          simp only [List.mem_append] at hc
          rcases hc with hc | hc | hc
          · exact b1 c hc
          · exact .inl (List.eq_of_mem_replicate hc)
          · exact b2 c hc
        · simp
          rw [hG3]
          exact ⟨_, _, _, hlt, rfl⟩
        · intro e he
          rw [hG3] at he
          obtain ⟨l, s12, s13, hlt, rfl⟩ := he
          obtain ⟨x0, hx0, hx0m⟩ := hname (N.hs.length - 1) (by omega)
          have ixn : semIx (.list (names.map tx)) (.int ((N.hs.length : Int) - 1)) = some (tx x0) := by
            rw [show (N.hs.length : Int) - 1 = ((N.hs.length - 1 : Nat) : Int) by omega]
            exact ix_list (by rw [List.getElem?_map, hx0]; rfl)
          have hspot : ∀ h ∈ N.hs, ∀ d ∈ h.2.1.map (·.1), SpIn N (h.1, d) := fun h hh d hd => ⟨h.2, look_at hN.names hh, hd⟩
          obtain ⟨i18, e18, h18⟩ := dr_nat L 18 (many := N.hs.length) (by omega)
          simp [-fs_if, ixn, e_call at34_0, dr]
          obtain ⟨G4, hG4⟩ : ∃ G : List Sl → Prop, ∀ e, G e = ∃ (x d : Tx) (m14 : Bool) (s16 : Sl), SpIn N (x, d) ∧ e = [.fr true (scr L), s1', .fr false (.list (lay.map fl)), s3', s4', s5', s6', .fr false (.list (names.map tx)), .fr false (.list [tx d0, tx d1, tx d2, tx d3]), .fr m (nt N), .fr false (.int (w : Int)), .fr false (tx l), s12, s13, .fr m14 (tx x), .fr false (tx d), s16, .no, .no, .no, .no] := ⟨_, fun _ => rfl⟩
          refine fs_cut G4 (fun _ => ?_) (fun _ => ?_) ?_
          · have ih : semIx (.list (N.hs.map nh)) (.int (i18 : Int)) = some (nh N.hs[i18]) := ix_list (by rw [List.getElem?_map, List.getElem?_eq_getElem h18]; rfl)
            have hm : N.hs[i18] ∈ N.hs := List.getElem_mem h18
            generalize N.hs[i18] = h at *
            have hpos : 0 < h.2.1.length := by
              have := List.length_pos_of_mem (hdoor h hm)
              simpa using this
            obtain ⟨i19, e19, h19⟩ := dr_nat L 19 (many := h.2.1.length) hpos
            have ig : semIx (.list (h.2.1.map gt)) (.int (i19 : Int)) = some (gt h.2.1[i19]) := ix_list (by rw [List.getElem?_map, List.getElem?_eq_getElem h19]; rfl)
            have hg : h.2.1[i19].1 ∈ h.2.1.map (·.1) := List.mem_map_of_mem (List.getElem_mem h19)
            generalize h.2.1[i19] = g at *
            have un : ∀ (m : Bool) (l : List Nat) (env : List Sl), unpR (.fr m (nh h)) l env = .of (setAll m l [tx h.1, ho h.2] env) .next := fun _ _ _ => rfl
            have mg : ∀ m : Bool, mk m false (gt g) = .fr m (gt g) := fun m => mk_tup _ _
            simp [e_call at34_0, dr 18 (N.hs.length : Int) (by omega) (by omega), e18, ih, un, dr 19 (h.2.1.length : Int) (by omega) (by omega), e19, ig, mg]
            rw [hG4]
            exact ⟨_, _, _, _, hspot h hm _ hg, rfl⟩
          · simp
            rw [hG4]
            obtain ⟨h, hh, rfl⟩ := List.mem_map.mp hx0m
            exact ⟨_, _, _, _, hspot h hh _ (hdoor h hh), rfl⟩
          · intro e he
            rw [hG4] at he
            obtain ⟨x, d, m14, s16, hs, rfl⟩ := he
            have hc : CmOk N w (x, d, l) := ⟨hs, hlt⟩
            have hk : (spotsL N).length * 2 ^ T.length ≤ 90000 := by
              have : 2 ^ T.length ≤ 2 ^ 6 := Nat.pow_le_pow_right (by omega) hT
              have := Nat.mul_le_mul hsp this
              omega
            obtain ⟨r, hr⟩ := walk_few hN hTT hc hk
            have rl := (walk_trail hN 90001 hc (by simp) .nil hr).2.2
            simp at rl
            have cp : fn15 [nt N] = .ok (.fr false (nt N)) := M.copy_eq 9 8 (nt N) (pd_nt hN) (by decide)
            have sm : ∀ (n : Nat) (d : D), Pd n d → n < 9 → fn16 [d, d] = .ok (.fr false (.bool true)) := fun n d h1 h2 => M.same_refl 9 n d h1 h2
            have sw := sm 3 _ (pd_walk (r := r) (by omega)) (by decide)
            have sf := sm 1 _ (pd_fared r.2) (by decide)
            have sn := sm 8 _ (pd_nt hN) (by decide)
            have fr : fn32 [finD r.2] = .ok (.fr false (faredD r.2)) := M.fared_eq r.2
            simp [s2, e_call at34_14]
            refine M.lWalk_ok (Γ := ft14) (c := (x, d, l)) ldoes14 ⟨ft12, 0, at14_12⟩ ⟨ft13, 0, at14_13⟩ hN hc (Nat.le_refl _) hr ?_
            simp [e_call at34_15, e_call at34_16, e_call at34_31, cp]
            refine M.netWalk_ok (Γ := ft31) (c := (x, d, l)) tied31 named31 ⟨ft22, 0, at31_22⟩ letter31 does31 hN hc (Nat.le_refl _) hr ?_
            simp [e_call at34_16, sw, e_call at34_33, e_call at34_32]
            refine M.netFared_ok (Γ := ft33) (c := (x, d, l)) walk33 hN hc (Nat.le_refl _) hr ?_
            simp [e_call at34_16, e_call at34_32, fr, sf, sn]
  obtain ⟨a, e, rfl⟩ := rs_eq main
  exact e
end K39

set_option Elab.async false
set_option linter.all false
set_option maxRecDepth 100000
set_option maxHeartbeats 4000000
namespace K39
open PySem PySem.Spec PyProof.Rows L2 En
section
variable {P : Program} {w : World} {K : PySem.W.Frag} {mg : Str → Option Value} {base : Heap}
theorem fns (h0 : Has K mg "_law_draw" st0 ["script", "k", "many"]) (h1 : Has K mg "_law_turned" st1 ["script", "k", "things"]) (h2 : Has K mg "_law_names" st2 ["script", "k", "many"]) (h3 : Has K mg "_law_width" st3 ["layout"]) (h4 : Has K mg "_law_span" st4 ["layout"]) (h5 : Has K mg "_law_row_at" st5 ["width", "places", "signs"]) (h6 : Has K mg "_law_counting" st6 ["script", "width", "places", "goal", "way"]) (h7 : Has K mg "_law_ring" st7 ["script", "layout", "doors", "names"]) (h8 : Has K mg "_law_lies" st8 ["row", "letter"]) (h9 : Has K mg "_law_goes" st9 ["layout", "ways", "letter"]) (h10 : Has K mg "_law_written" st10 ["letter", "over"]) (h11 : Has K mg "_law_does" st11 ["layout", "house", "door", "letter"]) (h12 : Has K mg "_law_house_of" st12 ["houses", "name"]) (h13 : Has K mg "_law_beyond" st13 ["lines", "spot"]) (h14 : Has K mg "_law_walk" st14 ["net", "spot", "letter"]) (h15 : Has K mg "_law_copy" st15 ["thing"]) (h16 : Has K mg "_law_same" st16 ["found", "due"]) (h17 : Has K mg "door_rules" st17 ["house", "door"]) (h18 : Has K mg "house_named" st18 ["net", "name"]) (h19 : Has K mg "net_tied" st19 ["net", "house", "door"]) (h20 : Has K mg "is_row" st20 ["thing", "width"]) (h21 : Has K mg "is_letter" st21 ["thing", "width"]) (h22 : Has K mg "layout_width" st22 ["layout"]) (h23 : Has K mg "row_holds" st23 ["row", "letter"]) (h24 : Has K mg "rule_first" st24 ["rules", "letter"]) (h25 : Has K mg "row_written" st25 ["row", "over"]) (h26 : Has K mg "rule_deed" st26 ["rules", "letter"]) (h27 : Has K mg "way_found" st27 ["ways", "signs"]) (h28 : Has K mg "field_span" st28 ["layout", "name"]) (h29 : Has K mg "field_part" st29 ["layout", "name", "row"]) (h30 : Has K mg "house_does" st30 ["layout", "house", "door", "letter"]) (h31 : Has K mg "net_walk" st31 ["net", "house", "door", "letter"]) (h32 : Has K mg "_law_fared" st32 ["end"]) (h33 : Has K mg "net_fared" st33 ["net", "house", "door", "letter"]) (blt : Blt mg) : FnsOk P w K mg base 156 ft34 := by
  have g1 : FnsOk P w K mg base 3 ft1 := fns_put (k := 0) fns0 h0 fs0 mf0 fu0 ok0 blt rz0
  have g2 : FnsOk P w K mg base 6 ft2 := fns_put (k := 3) g1 h1 fs1 mf1 fu1 ok1 blt rz0
  have g3 : FnsOk P w K mg base 9 ft3 := fns_put (k := 6) g2 h2 fs2 mf2 fu2 ok2 blt rz0
  have g4 : FnsOk P w K mg base 12 ft4 := fns_put (k := 9) g3 h3 fs3 mf3 fu3 ok3 blt rz0
  have g5 : FnsOk P w K mg base 15 ft5 := fns_put (k := 12) g4 h4 fs4 mf4 fu4 ok4 blt rz0
  have g6 : FnsOk P w K mg base 18 ft6 := fns_put (k := 15) g5 h5 fs5 mf5 fu5 ok5 blt rz0
  have g7 : FnsOk P w K mg base 21 ft7 := fns_put (k := 18) g6 h6 fs6 mf6 fu6 ok6 blt rz0
  have g8 : FnsOk P w K mg base 24 ft8 := fns_put (k := 21) g7 h7 fs7 mf7 fu7 ok7 blt rz0
  have g9 : FnsOk P w K mg base 27 ft9 := fns_put (k := 24) g8 h8 fs8 mf8 fu8 ok8 blt rz0
  have g10 : FnsOk P w K mg base 30 ft10 := fns_put (k := 27) g9 h9 fs9 mf9 fu9 ok9 blt rz0
  have g11 : FnsOk P w K mg base 33 ft11 := fns_put (k := 30) g10 h10 fs10 mf10 fu10 ok10 blt rz0
  have g12 : FnsOk P w K mg base 36 ft12 := fns_put (k := 33) g11 h11 fs11 mf11 fu11 ok11 blt rz0
  have g13 : FnsOk P w K mg base 39 ft13 := fns_put (k := 36) g12 h12 fs12 mf12 fu12 ok12 blt rz0
  have g14 : FnsOk P w K mg base 42 ft14 := fns_put (k := 39) g13 h13 fs13 mf13 fu13 ok13 blt rz0
  have g15 : FnsOk P w K mg base 45 ft15 := fns_put (k := 42) g14 h14 fs14 mf14 fu14 ok14 blt rz0
  have g16 : FnsOk P w K mg base 75 ft16 := fns_rec (k := 45) g15 h15 fs15 mf15 0 ok15 blt 9
  have g17 : FnsOk P w K mg base 105 ft17 := fns_rec (k := 75) g16 h16 fs16 mf16 0 ok16 blt 9
  have g18 : FnsOk P w K mg base 108 ft18 := fns_put (k := 105) g17 h17 fs17 mf17 fu17 ok17 blt rz0
  have g19 : FnsOk P w K mg base 111 ft19 := fns_put (k := 108) g18 h18 fs18 mf18 fu18 ok18 blt rz0
  have g20 : FnsOk P w K mg base 114 ft20 := fns_put (k := 111) g19 h19 fs19 mf19 fu19 ok19 blt rz0
  have g21 : FnsOk P w K mg base 117 ft21 := fns_put (k := 114) g20 h20 fs20 mf20 fu20 ok20 blt rz0
  have g22 : FnsOk P w K mg base 120 ft22 := fns_put (k := 117) g21 h21 fs21 mf21 fu21 ok21 blt rz0
  have g23 : FnsOk P w K mg base 123 ft23 := fns_put (k := 120) g22 h22 fs22 mf22 fu22 ok22 blt rz0
  have g24 : FnsOk P w K mg base 126 ft24 := fns_put (k := 123) g23 h23 fs23 mf23 fu23 ok23 blt rz0
  have g25 : FnsOk P w K mg base 129 ft25 := fns_put (k := 126) g24 h24 fs24 mf24 fu24 ok24 blt rz0
  have g26 : FnsOk P w K mg base 132 ft26 := fns_put (k := 129) g25 h25 fs25 mf25 fu25 ok25 blt rz0
  have g27 : FnsOk P w K mg base 135 ft27 := fns_put (k := 132) g26 h26 fs26 mf26 fu26 ok26 blt rz0
  have g28 : FnsOk P w K mg base 138 ft28 := fns_put (k := 135) g27 h27 fs27 mf27 fu27 ok27 blt rz0
  have g29 : FnsOk P w K mg base 141 ft29 := fns_put (k := 138) g28 h28 fs28 mf28 fu28 ok28 blt rz0
  have g30 : FnsOk P w K mg base 144 ft30 := fns_put (k := 141) g29 h29 fs29 mf29 fu29 ok29 blt rz0
  have g31 : FnsOk P w K mg base 147 ft31 := fns_put (k := 144) g30 h30 fs30 mf30 fu30 ok30 blt rz0
  have g32 : FnsOk P w K mg base 150 ft32 := fns_put (k := 147) g31 h31 fs31 mf31 fu31 ok31 blt rz0
  have g33 : FnsOk P w K mg base 153 ft33 := fns_put (k := 150) g32 h32 fs32 mf32 fu32 ok32 blt rz0
  have g34 : FnsOk P w K mg base 156 ft34 := fns_put (k := 153) g33 h33 fs33 mf33 fu33 ok33 blt rz0
  exact g34
end
set_option maxHeartbeats 0 in
theorem all_mk {l : PySem.W.OpenLaw} {w : World} {K : PySem.W.Frag} {h : Heap} {mg : Str → Option Value} {fa : Addr} (X : K.In h) (G : h.Ns mainGlobals mg) (hfa : mg "law" = some (.ref fa)) (nl : noList K = true)
    {f0 : Addr} {od0 an0 : Option Addr} {sl0 : Array (Option Value)} {oc0 kV0 dc0 pm0 cd0 ct0 : Value} (a0 : PySem.W.nsIn K mainGlobals "_law_draw" = some (some (.ref f0))) (l0 : K.lookup f0 = some ⟨oc0, od0, .func (PySem.W.fnOf "_law_draw" "_law_draw" (defArgs st0) (defBody st0) (defScope st0) .none kV0 dc0 pm0 an0 cd0 ct0), sl0⟩) (c0 : PySem.W.codeIn K cd0 "_law_draw" = true) (k0 : PySem.W.keepIn K (.ref f0) = true)
    {f1 : Addr} {od1 an1 : Option Addr} {sl1 : Array (Option Value)} {oc1 kV1 dc1 pm1 cd1 ct1 : Value} (a1 : PySem.W.nsIn K mainGlobals "_law_turned" = some (some (.ref f1))) (l1 : K.lookup f1 = some ⟨oc1, od1, .func (PySem.W.fnOf "_law_turned" "_law_turned" (defArgs st1) (defBody st1) (defScope st1) .none kV1 dc1 pm1 an1 cd1 ct1), sl1⟩) (c1 : PySem.W.codeIn K cd1 "_law_turned" = true) (k1 : PySem.W.keepIn K (.ref f1) = true)
    {f2 : Addr} {od2 an2 : Option Addr} {sl2 : Array (Option Value)} {oc2 kV2 dc2 pm2 cd2 ct2 : Value} (a2 : PySem.W.nsIn K mainGlobals "_law_names" = some (some (.ref f2))) (l2 : K.lookup f2 = some ⟨oc2, od2, .func (PySem.W.fnOf "_law_names" "_law_names" (defArgs st2) (defBody st2) (defScope st2) .none kV2 dc2 pm2 an2 cd2 ct2), sl2⟩) (c2 : PySem.W.codeIn K cd2 "_law_names" = true) (k2 : PySem.W.keepIn K (.ref f2) = true)
    {f3 : Addr} {od3 an3 : Option Addr} {sl3 : Array (Option Value)} {oc3 kV3 dc3 pm3 cd3 ct3 : Value} (a3 : PySem.W.nsIn K mainGlobals "_law_width" = some (some (.ref f3))) (l3 : K.lookup f3 = some ⟨oc3, od3, .func (PySem.W.fnOf "_law_width" "_law_width" (defArgs st3) (defBody st3) (defScope st3) .none kV3 dc3 pm3 an3 cd3 ct3), sl3⟩) (c3 : PySem.W.codeIn K cd3 "_law_width" = true) (k3 : PySem.W.keepIn K (.ref f3) = true)
    {f4 : Addr} {od4 an4 : Option Addr} {sl4 : Array (Option Value)} {oc4 kV4 dc4 pm4 cd4 ct4 : Value} (a4 : PySem.W.nsIn K mainGlobals "_law_span" = some (some (.ref f4))) (l4 : K.lookup f4 = some ⟨oc4, od4, .func (PySem.W.fnOf "_law_span" "_law_span" (defArgs st4) (defBody st4) (defScope st4) .none kV4 dc4 pm4 an4 cd4 ct4), sl4⟩) (c4 : PySem.W.codeIn K cd4 "_law_span" = true) (k4 : PySem.W.keepIn K (.ref f4) = true)
    {f5 : Addr} {od5 an5 : Option Addr} {sl5 : Array (Option Value)} {oc5 kV5 dc5 pm5 cd5 ct5 : Value} (a5 : PySem.W.nsIn K mainGlobals "_law_row_at" = some (some (.ref f5))) (l5 : K.lookup f5 = some ⟨oc5, od5, .func (PySem.W.fnOf "_law_row_at" "_law_row_at" (defArgs st5) (defBody st5) (defScope st5) .none kV5 dc5 pm5 an5 cd5 ct5), sl5⟩) (c5 : PySem.W.codeIn K cd5 "_law_row_at" = true) (k5 : PySem.W.keepIn K (.ref f5) = true)
    {f6 : Addr} {od6 an6 : Option Addr} {sl6 : Array (Option Value)} {oc6 kV6 dc6 pm6 cd6 ct6 : Value} (a6 : PySem.W.nsIn K mainGlobals "_law_counting" = some (some (.ref f6))) (l6 : K.lookup f6 = some ⟨oc6, od6, .func (PySem.W.fnOf "_law_counting" "_law_counting" (defArgs st6) (defBody st6) (defScope st6) .none kV6 dc6 pm6 an6 cd6 ct6), sl6⟩) (c6 : PySem.W.codeIn K cd6 "_law_counting" = true) (k6 : PySem.W.keepIn K (.ref f6) = true)
    {f7 : Addr} {od7 an7 : Option Addr} {sl7 : Array (Option Value)} {oc7 kV7 dc7 pm7 cd7 ct7 : Value} (a7 : PySem.W.nsIn K mainGlobals "_law_ring" = some (some (.ref f7))) (l7 : K.lookup f7 = some ⟨oc7, od7, .func (PySem.W.fnOf "_law_ring" "_law_ring" (defArgs st7) (defBody st7) (defScope st7) .none kV7 dc7 pm7 an7 cd7 ct7), sl7⟩) (c7 : PySem.W.codeIn K cd7 "_law_ring" = true) (k7 : PySem.W.keepIn K (.ref f7) = true)
    {f8 : Addr} {od8 an8 : Option Addr} {sl8 : Array (Option Value)} {oc8 kV8 dc8 pm8 cd8 ct8 : Value} (a8 : PySem.W.nsIn K mainGlobals "_law_lies" = some (some (.ref f8))) (l8 : K.lookup f8 = some ⟨oc8, od8, .func (PySem.W.fnOf "_law_lies" "_law_lies" (defArgs st8) (defBody st8) (defScope st8) .none kV8 dc8 pm8 an8 cd8 ct8), sl8⟩) (c8 : PySem.W.codeIn K cd8 "_law_lies" = true) (k8 : PySem.W.keepIn K (.ref f8) = true)
    {f9 : Addr} {od9 an9 : Option Addr} {sl9 : Array (Option Value)} {oc9 kV9 dc9 pm9 cd9 ct9 : Value} (a9 : PySem.W.nsIn K mainGlobals "_law_goes" = some (some (.ref f9))) (l9 : K.lookup f9 = some ⟨oc9, od9, .func (PySem.W.fnOf "_law_goes" "_law_goes" (defArgs st9) (defBody st9) (defScope st9) .none kV9 dc9 pm9 an9 cd9 ct9), sl9⟩) (c9 : PySem.W.codeIn K cd9 "_law_goes" = true) (k9 : PySem.W.keepIn K (.ref f9) = true)
    {f10 : Addr} {od10 an10 : Option Addr} {sl10 : Array (Option Value)} {oc10 kV10 dc10 pm10 cd10 ct10 : Value} (a10 : PySem.W.nsIn K mainGlobals "_law_written" = some (some (.ref f10))) (l10 : K.lookup f10 = some ⟨oc10, od10, .func (PySem.W.fnOf "_law_written" "_law_written" (defArgs st10) (defBody st10) (defScope st10) .none kV10 dc10 pm10 an10 cd10 ct10), sl10⟩) (c10 : PySem.W.codeIn K cd10 "_law_written" = true) (k10 : PySem.W.keepIn K (.ref f10) = true)
    {f11 : Addr} {od11 an11 : Option Addr} {sl11 : Array (Option Value)} {oc11 kV11 dc11 pm11 cd11 ct11 : Value} (a11 : PySem.W.nsIn K mainGlobals "_law_does" = some (some (.ref f11))) (l11 : K.lookup f11 = some ⟨oc11, od11, .func (PySem.W.fnOf "_law_does" "_law_does" (defArgs st11) (defBody st11) (defScope st11) .none kV11 dc11 pm11 an11 cd11 ct11), sl11⟩) (c11 : PySem.W.codeIn K cd11 "_law_does" = true) (k11 : PySem.W.keepIn K (.ref f11) = true)
    {f12 : Addr} {od12 an12 : Option Addr} {sl12 : Array (Option Value)} {oc12 kV12 dc12 pm12 cd12 ct12 : Value} (a12 : PySem.W.nsIn K mainGlobals "_law_house_of" = some (some (.ref f12))) (l12 : K.lookup f12 = some ⟨oc12, od12, .func (PySem.W.fnOf "_law_house_of" "_law_house_of" (defArgs st12) (defBody st12) (defScope st12) .none kV12 dc12 pm12 an12 cd12 ct12), sl12⟩) (c12 : PySem.W.codeIn K cd12 "_law_house_of" = true) (k12 : PySem.W.keepIn K (.ref f12) = true)
    {f13 : Addr} {od13 an13 : Option Addr} {sl13 : Array (Option Value)} {oc13 kV13 dc13 pm13 cd13 ct13 : Value} (a13 : PySem.W.nsIn K mainGlobals "_law_beyond" = some (some (.ref f13))) (l13 : K.lookup f13 = some ⟨oc13, od13, .func (PySem.W.fnOf "_law_beyond" "_law_beyond" (defArgs st13) (defBody st13) (defScope st13) .none kV13 dc13 pm13 an13 cd13 ct13), sl13⟩) (c13 : PySem.W.codeIn K cd13 "_law_beyond" = true) (k13 : PySem.W.keepIn K (.ref f13) = true)
    {f14 : Addr} {od14 an14 : Option Addr} {sl14 : Array (Option Value)} {oc14 kV14 dc14 pm14 cd14 ct14 : Value} (a14 : PySem.W.nsIn K mainGlobals "_law_walk" = some (some (.ref f14))) (l14 : K.lookup f14 = some ⟨oc14, od14, .func (PySem.W.fnOf "_law_walk" "_law_walk" (defArgs st14) (defBody st14) (defScope st14) .none kV14 dc14 pm14 an14 cd14 ct14), sl14⟩) (c14 : PySem.W.codeIn K cd14 "_law_walk" = true) (k14 : PySem.W.keepIn K (.ref f14) = true)
    {f15 : Addr} {od15 an15 : Option Addr} {sl15 : Array (Option Value)} {oc15 kV15 dc15 pm15 cd15 ct15 : Value} (a15 : PySem.W.nsIn K mainGlobals "_law_copy" = some (some (.ref f15))) (l15 : K.lookup f15 = some ⟨oc15, od15, .func (PySem.W.fnOf "_law_copy" "_law_copy" (defArgs st15) (defBody st15) (defScope st15) .none kV15 dc15 pm15 an15 cd15 ct15), sl15⟩) (c15 : PySem.W.codeIn K cd15 "_law_copy" = true) (k15 : PySem.W.keepIn K (.ref f15) = true)
    {f16 : Addr} {od16 an16 : Option Addr} {sl16 : Array (Option Value)} {oc16 kV16 dc16 pm16 cd16 ct16 : Value} (a16 : PySem.W.nsIn K mainGlobals "_law_same" = some (some (.ref f16))) (l16 : K.lookup f16 = some ⟨oc16, od16, .func (PySem.W.fnOf "_law_same" "_law_same" (defArgs st16) (defBody st16) (defScope st16) .none kV16 dc16 pm16 an16 cd16 ct16), sl16⟩) (c16 : PySem.W.codeIn K cd16 "_law_same" = true) (k16 : PySem.W.keepIn K (.ref f16) = true)
    {f17 : Addr} {od17 an17 : Option Addr} {sl17 : Array (Option Value)} {oc17 kV17 dc17 pm17 cd17 ct17 : Value} (a17 : PySem.W.nsIn K mainGlobals "door_rules" = some (some (.ref f17))) (l17 : K.lookup f17 = some ⟨oc17, od17, .func (PySem.W.fnOf "door_rules" "door_rules" (defArgs st17) (defBody st17) (defScope st17) .none kV17 dc17 pm17 an17 cd17 ct17), sl17⟩) (c17 : PySem.W.codeIn K cd17 "door_rules" = true) (k17 : PySem.W.keepIn K (.ref f17) = true)
    {f18 : Addr} {od18 an18 : Option Addr} {sl18 : Array (Option Value)} {oc18 kV18 dc18 pm18 cd18 ct18 : Value} (a18 : PySem.W.nsIn K mainGlobals "house_named" = some (some (.ref f18))) (l18 : K.lookup f18 = some ⟨oc18, od18, .func (PySem.W.fnOf "house_named" "house_named" (defArgs st18) (defBody st18) (defScope st18) .none kV18 dc18 pm18 an18 cd18 ct18), sl18⟩) (c18 : PySem.W.codeIn K cd18 "house_named" = true) (k18 : PySem.W.keepIn K (.ref f18) = true)
    {f19 : Addr} {od19 an19 : Option Addr} {sl19 : Array (Option Value)} {oc19 kV19 dc19 pm19 cd19 ct19 : Value} (a19 : PySem.W.nsIn K mainGlobals "net_tied" = some (some (.ref f19))) (l19 : K.lookup f19 = some ⟨oc19, od19, .func (PySem.W.fnOf "net_tied" "net_tied" (defArgs st19) (defBody st19) (defScope st19) .none kV19 dc19 pm19 an19 cd19 ct19), sl19⟩) (c19 : PySem.W.codeIn K cd19 "net_tied" = true) (k19 : PySem.W.keepIn K (.ref f19) = true)
    {f20 : Addr} {od20 an20 : Option Addr} {sl20 : Array (Option Value)} {oc20 kV20 dc20 pm20 cd20 ct20 : Value} (a20 : PySem.W.nsIn K mainGlobals "is_row" = some (some (.ref f20))) (l20 : K.lookup f20 = some ⟨oc20, od20, .func (PySem.W.fnOf "is_row" "is_row" (defArgs st20) (defBody st20) (defScope st20) .none kV20 dc20 pm20 an20 cd20 ct20), sl20⟩) (c20 : PySem.W.codeIn K cd20 "is_row" = true) (k20 : PySem.W.keepIn K (.ref f20) = true)
    {f21 : Addr} {od21 an21 : Option Addr} {sl21 : Array (Option Value)} {oc21 kV21 dc21 pm21 cd21 ct21 : Value} (a21 : PySem.W.nsIn K mainGlobals "is_letter" = some (some (.ref f21))) (l21 : K.lookup f21 = some ⟨oc21, od21, .func (PySem.W.fnOf "is_letter" "is_letter" (defArgs st21) (defBody st21) (defScope st21) .none kV21 dc21 pm21 an21 cd21 ct21), sl21⟩) (c21 : PySem.W.codeIn K cd21 "is_letter" = true) (k21 : PySem.W.keepIn K (.ref f21) = true)
    {f22 : Addr} {od22 an22 : Option Addr} {sl22 : Array (Option Value)} {oc22 kV22 dc22 pm22 cd22 ct22 : Value} (a22 : PySem.W.nsIn K mainGlobals "layout_width" = some (some (.ref f22))) (l22 : K.lookup f22 = some ⟨oc22, od22, .func (PySem.W.fnOf "layout_width" "layout_width" (defArgs st22) (defBody st22) (defScope st22) .none kV22 dc22 pm22 an22 cd22 ct22), sl22⟩) (c22 : PySem.W.codeIn K cd22 "layout_width" = true) (k22 : PySem.W.keepIn K (.ref f22) = true)
    {f23 : Addr} {od23 an23 : Option Addr} {sl23 : Array (Option Value)} {oc23 kV23 dc23 pm23 cd23 ct23 : Value} (a23 : PySem.W.nsIn K mainGlobals "row_holds" = some (some (.ref f23))) (l23 : K.lookup f23 = some ⟨oc23, od23, .func (PySem.W.fnOf "row_holds" "row_holds" (defArgs st23) (defBody st23) (defScope st23) .none kV23 dc23 pm23 an23 cd23 ct23), sl23⟩) (c23 : PySem.W.codeIn K cd23 "row_holds" = true) (k23 : PySem.W.keepIn K (.ref f23) = true)
    {f24 : Addr} {od24 an24 : Option Addr} {sl24 : Array (Option Value)} {oc24 kV24 dc24 pm24 cd24 ct24 : Value} (a24 : PySem.W.nsIn K mainGlobals "rule_first" = some (some (.ref f24))) (l24 : K.lookup f24 = some ⟨oc24, od24, .func (PySem.W.fnOf "rule_first" "rule_first" (defArgs st24) (defBody st24) (defScope st24) .none kV24 dc24 pm24 an24 cd24 ct24), sl24⟩) (c24 : PySem.W.codeIn K cd24 "rule_first" = true) (k24 : PySem.W.keepIn K (.ref f24) = true)
    {f25 : Addr} {od25 an25 : Option Addr} {sl25 : Array (Option Value)} {oc25 kV25 dc25 pm25 cd25 ct25 : Value} (a25 : PySem.W.nsIn K mainGlobals "row_written" = some (some (.ref f25))) (l25 : K.lookup f25 = some ⟨oc25, od25, .func (PySem.W.fnOf "row_written" "row_written" (defArgs st25) (defBody st25) (defScope st25) .none kV25 dc25 pm25 an25 cd25 ct25), sl25⟩) (c25 : PySem.W.codeIn K cd25 "row_written" = true) (k25 : PySem.W.keepIn K (.ref f25) = true)
    {f26 : Addr} {od26 an26 : Option Addr} {sl26 : Array (Option Value)} {oc26 kV26 dc26 pm26 cd26 ct26 : Value} (a26 : PySem.W.nsIn K mainGlobals "rule_deed" = some (some (.ref f26))) (l26 : K.lookup f26 = some ⟨oc26, od26, .func (PySem.W.fnOf "rule_deed" "rule_deed" (defArgs st26) (defBody st26) (defScope st26) .none kV26 dc26 pm26 an26 cd26 ct26), sl26⟩) (c26 : PySem.W.codeIn K cd26 "rule_deed" = true) (k26 : PySem.W.keepIn K (.ref f26) = true)
    {f27 : Addr} {od27 an27 : Option Addr} {sl27 : Array (Option Value)} {oc27 kV27 dc27 pm27 cd27 ct27 : Value} (a27 : PySem.W.nsIn K mainGlobals "way_found" = some (some (.ref f27))) (l27 : K.lookup f27 = some ⟨oc27, od27, .func (PySem.W.fnOf "way_found" "way_found" (defArgs st27) (defBody st27) (defScope st27) .none kV27 dc27 pm27 an27 cd27 ct27), sl27⟩) (c27 : PySem.W.codeIn K cd27 "way_found" = true) (k27 : PySem.W.keepIn K (.ref f27) = true)
    {f28 : Addr} {od28 an28 : Option Addr} {sl28 : Array (Option Value)} {oc28 kV28 dc28 pm28 cd28 ct28 : Value} (a28 : PySem.W.nsIn K mainGlobals "field_span" = some (some (.ref f28))) (l28 : K.lookup f28 = some ⟨oc28, od28, .func (PySem.W.fnOf "field_span" "field_span" (defArgs st28) (defBody st28) (defScope st28) .none kV28 dc28 pm28 an28 cd28 ct28), sl28⟩) (c28 : PySem.W.codeIn K cd28 "field_span" = true) (k28 : PySem.W.keepIn K (.ref f28) = true)
    {f29 : Addr} {od29 an29 : Option Addr} {sl29 : Array (Option Value)} {oc29 kV29 dc29 pm29 cd29 ct29 : Value} (a29 : PySem.W.nsIn K mainGlobals "field_part" = some (some (.ref f29))) (l29 : K.lookup f29 = some ⟨oc29, od29, .func (PySem.W.fnOf "field_part" "field_part" (defArgs st29) (defBody st29) (defScope st29) .none kV29 dc29 pm29 an29 cd29 ct29), sl29⟩) (c29 : PySem.W.codeIn K cd29 "field_part" = true) (k29 : PySem.W.keepIn K (.ref f29) = true)
    {f30 : Addr} {od30 an30 : Option Addr} {sl30 : Array (Option Value)} {oc30 kV30 dc30 pm30 cd30 ct30 : Value} (a30 : PySem.W.nsIn K mainGlobals "house_does" = some (some (.ref f30))) (l30 : K.lookup f30 = some ⟨oc30, od30, .func (PySem.W.fnOf "house_does" "house_does" (defArgs st30) (defBody st30) (defScope st30) .none kV30 dc30 pm30 an30 cd30 ct30), sl30⟩) (c30 : PySem.W.codeIn K cd30 "house_does" = true) (k30 : PySem.W.keepIn K (.ref f30) = true)
    {f31 : Addr} {od31 an31 : Option Addr} {sl31 : Array (Option Value)} {oc31 kV31 dc31 pm31 cd31 ct31 : Value} (a31 : PySem.W.nsIn K mainGlobals "net_walk" = some (some (.ref f31))) (l31 : K.lookup f31 = some ⟨oc31, od31, .func (PySem.W.fnOf "net_walk" "net_walk" (defArgs st31) (defBody st31) (defScope st31) .none kV31 dc31 pm31 an31 cd31 ct31), sl31⟩) (c31 : PySem.W.codeIn K cd31 "net_walk" = true) (k31 : PySem.W.keepIn K (.ref f31) = true)
    {f32 : Addr} {od32 an32 : Option Addr} {sl32 : Array (Option Value)} {oc32 kV32 dc32 pm32 cd32 ct32 : Value} (a32 : PySem.W.nsIn K mainGlobals "_law_fared" = some (some (.ref f32))) (l32 : K.lookup f32 = some ⟨oc32, od32, .func (PySem.W.fnOf "_law_fared" "_law_fared" (defArgs st32) (defBody st32) (defScope st32) .none kV32 dc32 pm32 an32 cd32 ct32), sl32⟩) (c32 : PySem.W.codeIn K cd32 "_law_fared" = true) (k32 : PySem.W.keepIn K (.ref f32) = true)
    {f33 : Addr} {od33 an33 : Option Addr} {sl33 : Array (Option Value)} {oc33 kV33 dc33 pm33 cd33 ct33 : Value} (a33 : PySem.W.nsIn K mainGlobals "net_fared" = some (some (.ref f33))) (l33 : K.lookup f33 = some ⟨oc33, od33, .func (PySem.W.fnOf "net_fared" "net_fared" (defArgs st33) (defBody st33) (defScope st33) .none kV33 dc33 pm33 an33 cd33 ct33), sl33⟩) (c33 : PySem.W.codeIn K cd33 "net_fared" = true) (k33 : PySem.W.keepIn K (.ref f33) = true)
    {f34 : Addr} {od34 an34 : Option Addr} {sl34 : Array (Option Value)} {oc34 kV34 dc34 pm34 cd34 ct34 : Value} (a34 : PySem.W.nsIn K mainGlobals "law" = some (some (.ref f34))) (l34 : K.lookup f34 = some ⟨oc34, od34, .func (PySem.W.fnOf "law" "law" (defArgs st34) (defBody st34) (defScope st34) .none kV34 dc34 pm34 an34 cd34 ct34), sl34⟩) (c34 : PySem.W.codeIn K cd34 "law" = true) (k34 : PySem.W.keepIn K (.ref f34) = true)
    (z_len : PySem.W.nsIn K mainGlobals "len" = some none)
    (z_list : PySem.W.nsIn K mainGlobals "list" = some none)
    (z_tuple : PySem.W.nsIn K mainGlobals "tuple" = some none)
    (z_sum : PySem.W.nsIn K mainGlobals "sum" = some none)
    (z_min : PySem.W.nsIn K mainGlobals "min" = some none)
    (z_max : PySem.W.nsIn K mainGlobals "max" = some none)
    (z_int : PySem.W.nsIn K mainGlobals "int" = some none)
    (z_any : PySem.W.nsIn K mainGlobals "any" = some none)
    (z_all : PySem.W.nsIn K mainGlobals "all" = some none)
    (z_sorted : PySem.W.nsIn K mainGlobals "sorted" = some none)
    (z_isinstance : PySem.W.nsIn K mainGlobals "isinstance" = some none)
    (z_range : PySem.W.nsIn K mainGlobals "range" = some none)
    (z_zip : PySem.W.nsIn K mainGlobals "zip" = some none)
    (z_enumerate : PySem.W.nsIn K mainGlobals "enumerate" = some none)
    (z_reversed : PySem.W.nsIn K mainGlobals "reversed" = some none)
    (z_str : PySem.W.nsIn K mainGlobals "str" = some none)
    (z_bool : PySem.W.nsIn K mainGlobals "bool" = some none)
    (z_set : PySem.W.nsIn K mainGlobals "set" = some none)
    (z_dict : PySem.W.nsIn K mainGlobals "dict" = some none)
    : ∃ fd : FuncData, (∀ (s : Shared) (v : Value), BindsTo s fd ⟨[v], []⟩ [("script", v)]) ∧ ∀ base : Heap, K.In base → base.Ns mainGlobals mg → FnOk l.prog w K mg base (L2.CX l.prog w) 159 fa fd ["script"] (spLaw K) := by
  have F0 := fun_mk (st := st0) l0 c0 k0
  have h0 : Has K mg "_law_draw" st0 ["script", "k", "many"] := ⟨f0, _, F0, PySem.W.mg_of X G a0, F0.binds (ps := ["script", "k", "many"]) fun _ _ _ _ _ _ us hl => match us, hl with | [_, _, _], _ => rfl⟩
  have F1 := fun_mk (st := st1) l1 c1 k1
  have h1 : Has K mg "_law_turned" st1 ["script", "k", "things"] := ⟨f1, _, F1, PySem.W.mg_of X G a1, F1.binds (ps := ["script", "k", "things"]) fun _ _ _ _ _ _ us hl => match us, hl with | [_, _, _], _ => rfl⟩
  have F2 := fun_mk (st := st2) l2 c2 k2
  have h2 : Has K mg "_law_names" st2 ["script", "k", "many"] := ⟨f2, _, F2, PySem.W.mg_of X G a2, F2.binds (ps := ["script", "k", "many"]) fun _ _ _ _ _ _ us hl => match us, hl with | [_, _, _], _ => rfl⟩
  have F3 := fun_mk (st := st3) l3 c3 k3
  have h3 : Has K mg "_law_width" st3 ["layout"] := ⟨f3, _, F3, PySem.W.mg_of X G a3, F3.binds (ps := ["layout"]) fun _ _ _ _ _ _ us hl => match us, hl with | [_], _ => rfl⟩
  have F4 := fun_mk (st := st4) l4 c4 k4
  have h4 : Has K mg "_law_span" st4 ["layout"] := ⟨f4, _, F4, PySem.W.mg_of X G a4, F4.binds (ps := ["layout"]) fun _ _ _ _ _ _ us hl => match us, hl with | [_], _ => rfl⟩
  have F5 := fun_mk (st := st5) l5 c5 k5
  have h5 : Has K mg "_law_row_at" st5 ["width", "places", "signs"] := ⟨f5, _, F5, PySem.W.mg_of X G a5, F5.binds (ps := ["width", "places", "signs"]) fun _ _ _ _ _ _ us hl => match us, hl with | [_, _, _], _ => rfl⟩
  have F6 := fun_mk (st := st6) l6 c6 k6
  have h6 : Has K mg "_law_counting" st6 ["script", "width", "places", "goal", "way"] := ⟨f6, _, F6, PySem.W.mg_of X G a6, F6.binds (ps := ["script", "width", "places", "goal", "way"]) fun _ _ _ _ _ _ us hl => match us, hl with | [_, _, _, _, _], _ => rfl⟩
  have F7 := fun_mk (st := st7) l7 c7 k7
  have h7 : Has K mg "_law_ring" st7 ["script", "layout", "doors", "names"] := ⟨f7, _, F7, PySem.W.mg_of X G a7, F7.binds (ps := ["script", "layout", "doors", "names"]) fun _ _ _ _ _ _ us hl => match us, hl with | [_, _, _, _], _ => rfl⟩
  have F8 := fun_mk (st := st8) l8 c8 k8
  have h8 : Has K mg "_law_lies" st8 ["row", "letter"] := ⟨f8, _, F8, PySem.W.mg_of X G a8, F8.binds (ps := ["row", "letter"]) fun _ _ _ _ _ _ us hl => match us, hl with | [_, _], _ => rfl⟩
  have F9 := fun_mk (st := st9) l9 c9 k9
  have h9 : Has K mg "_law_goes" st9 ["layout", "ways", "letter"] := ⟨f9, _, F9, PySem.W.mg_of X G a9, F9.binds (ps := ["layout", "ways", "letter"]) fun _ _ _ _ _ _ us hl => match us, hl with | [_, _, _], _ => rfl⟩
  have F10 := fun_mk (st := st10) l10 c10 k10
  have h10 : Has K mg "_law_written" st10 ["letter", "over"] := ⟨f10, _, F10, PySem.W.mg_of X G a10, F10.binds (ps := ["letter", "over"]) fun _ _ _ _ _ _ us hl => match us, hl with | [_, _], _ => rfl⟩
  have F11 := fun_mk (st := st11) l11 c11 k11
  have h11 : Has K mg "_law_does" st11 ["layout", "house", "door", "letter"] := ⟨f11, _, F11, PySem.W.mg_of X G a11, F11.binds (ps := ["layout", "house", "door", "letter"]) fun _ _ _ _ _ _ us hl => match us, hl with | [_, _, _, _], _ => rfl⟩
  have F12 := fun_mk (st := st12) l12 c12 k12
  have h12 : Has K mg "_law_house_of" st12 ["houses", "name"] := ⟨f12, _, F12, PySem.W.mg_of X G a12, F12.binds (ps := ["houses", "name"]) fun _ _ _ _ _ _ us hl => match us, hl with | [_, _], _ => rfl⟩
  have F13 := fun_mk (st := st13) l13 c13 k13
  have h13 : Has K mg "_law_beyond" st13 ["lines", "spot"] := ⟨f13, _, F13, PySem.W.mg_of X G a13, F13.binds (ps := ["lines", "spot"]) fun _ _ _ _ _ _ us hl => match us, hl with | [_, _], _ => rfl⟩
  have F14 := fun_mk (st := st14) l14 c14 k14
  have h14 : Has K mg "_law_walk" st14 ["net", "spot", "letter"] := ⟨f14, _, F14, PySem.W.mg_of X G a14, F14.binds (ps := ["net", "spot", "letter"]) fun _ _ _ _ _ _ us hl => match us, hl with | [_, _, _], _ => rfl⟩
  have F15 := fun_mk (st := st15) l15 c15 k15
  have h15 : Has K mg "_law_copy" st15 ["thing"] := ⟨f15, _, F15, PySem.W.mg_of X G a15, F15.binds (ps := ["thing"]) fun _ _ _ _ _ _ us hl => match us, hl with | [_], _ => rfl⟩
  have F16 := fun_mk (st := st16) l16 c16 k16
  have h16 : Has K mg "_law_same" st16 ["found", "due"] := ⟨f16, _, F16, PySem.W.mg_of X G a16, F16.binds (ps := ["found", "due"]) fun _ _ _ _ _ _ us hl => match us, hl with | [_, _], _ => rfl⟩
  have F17 := fun_mk (st := st17) l17 c17 k17
  have h17 : Has K mg "door_rules" st17 ["house", "door"] := ⟨f17, _, F17, PySem.W.mg_of X G a17, F17.binds (ps := ["house", "door"]) fun _ _ _ _ _ _ us hl => match us, hl with | [_, _], _ => rfl⟩
  have F18 := fun_mk (st := st18) l18 c18 k18
  have h18 : Has K mg "house_named" st18 ["net", "name"] := ⟨f18, _, F18, PySem.W.mg_of X G a18, F18.binds (ps := ["net", "name"]) fun _ _ _ _ _ _ us hl => match us, hl with | [_, _], _ => rfl⟩
  have F19 := fun_mk (st := st19) l19 c19 k19
  have h19 : Has K mg "net_tied" st19 ["net", "house", "door"] := ⟨f19, _, F19, PySem.W.mg_of X G a19, F19.binds (ps := ["net", "house", "door"]) fun _ _ _ _ _ _ us hl => match us, hl with | [_, _, _], _ => rfl⟩
  have F20 := fun_mk (st := st20) l20 c20 k20
  have h20 : Has K mg "is_row" st20 ["thing", "width"] := ⟨f20, _, F20, PySem.W.mg_of X G a20, F20.binds (ps := ["thing", "width"]) fun _ _ _ _ _ _ us hl => match us, hl with | [_, _], _ => rfl⟩
  have F21 := fun_mk (st := st21) l21 c21 k21
  have h21 : Has K mg "is_letter" st21 ["thing", "width"] := ⟨f21, _, F21, PySem.W.mg_of X G a21, F21.binds (ps := ["thing", "width"]) fun _ _ _ _ _ _ us hl => match us, hl with | [_, _], _ => rfl⟩
  have F22 := fun_mk (st := st22) l22 c22 k22
  have h22 : Has K mg "layout_width" st22 ["layout"] := ⟨f22, _, F22, PySem.W.mg_of X G a22, F22.binds (ps := ["layout"]) fun _ _ _ _ _ _ us hl => match us, hl with | [_], _ => rfl⟩
  have F23 := fun_mk (st := st23) l23 c23 k23
  have h23 : Has K mg "row_holds" st23 ["row", "letter"] := ⟨f23, _, F23, PySem.W.mg_of X G a23, F23.binds (ps := ["row", "letter"]) fun _ _ _ _ _ _ us hl => match us, hl with | [_, _], _ => rfl⟩
  have F24 := fun_mk (st := st24) l24 c24 k24
  have h24 : Has K mg "rule_first" st24 ["rules", "letter"] := ⟨f24, _, F24, PySem.W.mg_of X G a24, F24.binds (ps := ["rules", "letter"]) fun _ _ _ _ _ _ us hl => match us, hl with | [_, _], _ => rfl⟩
  have F25 := fun_mk (st := st25) l25 c25 k25
  have h25 : Has K mg "row_written" st25 ["row", "over"] := ⟨f25, _, F25, PySem.W.mg_of X G a25, F25.binds (ps := ["row", "over"]) fun _ _ _ _ _ _ us hl => match us, hl with | [_, _], _ => rfl⟩
  have F26 := fun_mk (st := st26) l26 c26 k26
  have h26 : Has K mg "rule_deed" st26 ["rules", "letter"] := ⟨f26, _, F26, PySem.W.mg_of X G a26, F26.binds (ps := ["rules", "letter"]) fun _ _ _ _ _ _ us hl => match us, hl with | [_, _], _ => rfl⟩
  have F27 := fun_mk (st := st27) l27 c27 k27
  have h27 : Has K mg "way_found" st27 ["ways", "signs"] := ⟨f27, _, F27, PySem.W.mg_of X G a27, F27.binds (ps := ["ways", "signs"]) fun _ _ _ _ _ _ us hl => match us, hl with | [_, _], _ => rfl⟩
  have F28 := fun_mk (st := st28) l28 c28 k28
  have h28 : Has K mg "field_span" st28 ["layout", "name"] := ⟨f28, _, F28, PySem.W.mg_of X G a28, F28.binds (ps := ["layout", "name"]) fun _ _ _ _ _ _ us hl => match us, hl with | [_, _], _ => rfl⟩
  have F29 := fun_mk (st := st29) l29 c29 k29
  have h29 : Has K mg "field_part" st29 ["layout", "name", "row"] := ⟨f29, _, F29, PySem.W.mg_of X G a29, F29.binds (ps := ["layout", "name", "row"]) fun _ _ _ _ _ _ us hl => match us, hl with | [_, _, _], _ => rfl⟩
  have F30 := fun_mk (st := st30) l30 c30 k30
  have h30 : Has K mg "house_does" st30 ["layout", "house", "door", "letter"] := ⟨f30, _, F30, PySem.W.mg_of X G a30, F30.binds (ps := ["layout", "house", "door", "letter"]) fun _ _ _ _ _ _ us hl => match us, hl with | [_, _, _, _], _ => rfl⟩
  have F31 := fun_mk (st := st31) l31 c31 k31
  have h31 : Has K mg "net_walk" st31 ["net", "house", "door", "letter"] := ⟨f31, _, F31, PySem.W.mg_of X G a31, F31.binds (ps := ["net", "house", "door", "letter"]) fun _ _ _ _ _ _ us hl => match us, hl with | [_, _, _, _], _ => rfl⟩
  have F32 := fun_mk (st := st32) l32 c32 k32
  have h32 : Has K mg "_law_fared" st32 ["end"] := ⟨f32, _, F32, PySem.W.mg_of X G a32, F32.binds (ps := ["end"]) fun _ _ _ _ _ _ us hl => match us, hl with | [_], _ => rfl⟩
  have F33 := fun_mk (st := st33) l33 c33 k33
  have h33 : Has K mg "net_fared" st33 ["net", "house", "door", "letter"] := ⟨f33, _, F33, PySem.W.mg_of X G a33, F33.binds (ps := ["net", "house", "door", "letter"]) fun _ _ _ _ _ _ us hl => match us, hl with | [_, _, _, _], _ => rfl⟩
  have F34 := fun_mk (st := st34) l34 c34 k34
  have h34 : Has K mg "law" st34 ["script"] := ⟨f34, _, F34, PySem.W.mg_of X G a34, F34.binds (ps := ["script"]) fun _ _ _ _ _ _ us hl => match us, hl with | [_], _ => rfl⟩
  have blt : Blt mg := fun f hf => by
    simp only [List.mem_cons, List.mem_nil_iff, or_false] at hf
    rcases hf with rfl | rfl | rfl | rfl | rfl | rfl | rfl | rfl | rfl | rfl | rfl | rfl | rfl | rfl | rfl | rfl | rfl | rfl | rfl
    · exact PySem.W.mg_none_of X G z_len
    · exact PySem.W.mg_none_of X G z_list
    · exact PySem.W.mg_none_of X G z_tuple
    · exact PySem.W.mg_none_of X G z_sum
    · exact PySem.W.mg_none_of X G z_min
    · exact PySem.W.mg_none_of X G z_max
    · exact PySem.W.mg_none_of X G z_int
    · exact PySem.W.mg_none_of X G z_any
    · exact PySem.W.mg_none_of X G z_all
    · exact PySem.W.mg_none_of X G z_sorted
    · exact PySem.W.mg_none_of X G z_isinstance
    · exact PySem.W.mg_none_of X G z_range
    · exact PySem.W.mg_none_of X G z_zip
    · exact PySem.W.mg_none_of X G z_enumerate
    · exact PySem.W.mg_none_of X G z_reversed
    · exact PySem.W.mg_none_of X G z_str
    · exact PySem.W.mg_none_of X G z_bool
    · exact PySem.W.mg_none_of X G z_set
    · exact PySem.W.mg_none_of X G z_dict
  have e := hfa.symm.trans (PySem.W.mg_of X G a34)
  cases e
  refine ⟨_, fun s v => .of_eq rfl, fun base _ _ => law_one (fn_ok F34 fs34 mf34 (by decide) (by decide) fu34 (ok_and ok34) blt (fns h0 h1 h2 h3 h4 h5 h6 h7 h8 h9 h10 h11 h12 h13 h14 h15 h16 h17 h18 h19 h20 h21 h22 h23 h24 h25 h26 h27 h28 h29 h30 h31 h32 h33 blt) rz0) nl rfl law_true⟩
end K39
open PySem PySem.W PyProof.Rows
set_option maxHeartbeats 0 in
theorem PySem.Challenge.cw_throng_k39_long_walks_and_rings_holds : PySem.Challenge.rw_throng_k39_long_walks_and_rings.Holds := by
  w_on; o_law; k_head; (case hw => w_witness2)
  k_fill
  refine L2.walk_of (l := PySem.Challenge.rw_throng_k39_long_walks_and_rings) (n := 63) (k := 159) (x := "script") (CX := fun w => L2.CX PySem.Challenge.rw_throng_k39_long_walks_and_rings.prog w) (sp := fun w => En.spLaw _) rfl (by decide) rfl ⟨rfl, by decide, by decide⟩ (fun w h Y => PySem.W.kIn_of Y) ?F (fun _ _ a ns hl hO hS => ⟨a, ns, rfl, hS, hl, hO, fun _ => rfl⟩) (fun _ _ _ _ _ h => En.cx_end h)
  case F =>
    intro w mg fa h KX G hmg
    refine' K39.all_mk KX G hmg ?nl ?a0 ?l0 ?c0 ?k0 ?a1 ?l1 ?c1 ?k1 ?a2 ?l2 ?c2 ?k2 ?a3 ?l3 ?c3 ?k3 ?a4 ?l4 ?c4 ?k4 ?a5 ?l5 ?c5 ?k5 ?a6 ?l6 ?c6 ?k6 ?a7 ?l7 ?c7 ?k7 ?a8 ?l8 ?c8 ?k8 ?a9 ?l9 ?c9 ?k9 ?a10 ?l10 ?c10 ?k10 ?a11 ?l11 ?c11 ?k11 ?a12 ?l12 ?c12 ?k12 ?a13 ?l13 ?c13 ?k13 ?a14 ?l14 ?c14 ?k14 ?a15 ?l15 ?c15 ?k15 ?a16 ?l16 ?c16 ?k16 ?a17 ?l17 ?c17 ?k17 ?a18 ?l18 ?c18 ?k18 ?a19 ?l19 ?c19 ?k19 ?a20 ?l20 ?c20 ?k20 ?a21 ?l21 ?c21 ?k21 ?a22 ?l22 ?c22 ?k22 ?a23 ?l23 ?c23 ?k23 ?a24 ?l24 ?c24 ?k24 ?a25 ?l25 ?c25 ?k25 ?a26 ?l26 ?c26 ?k26 ?a27 ?l27 ?c27 ?k27 ?a28 ?l28 ?c28 ?k28 ?a29 ?l29 ?c29 ?k29 ?a30 ?l30 ?c30 ?k30 ?a31 ?l31 ?c31 ?k31 ?a32 ?l32 ?c32 ?k32 ?a33 ?l33 ?c33 ?k33 ?a34 ?l34 ?c34 ?k34  ?z_len ?z_list ?z_tuple ?z_sum ?z_min ?z_max ?z_int ?z_any ?z_all ?z_sorted ?z_isinstance ?z_range ?z_zip ?z_enumerate ?z_reversed ?z_str ?z_bool ?z_set ?z_dict
    (case a0 => k_is); (case l0 => k_is); (case c0 => k_is); (case k0 => k_is); (case a1 => k_is); (case l1 => k_is); (case c1 => k_is); (case k1 => k_is); (case a2 => k_is); (case l2 => k_is); (case c2 => k_is); (case k2 => k_is); (case a3 => k_is); (case l3 => k_is); (case c3 => k_is); (case k3 => k_is); (case a4 => k_is); (case l4 => k_is); (case c4 => k_is); (case k4 => k_is); (case a5 => k_is); (case l5 => k_is); (case c5 => k_is); (case k5 => k_is); (case a6 => k_is); (case l6 => k_is); (case c6 => k_is); (case k6 => k_is); (case a7 => k_is); (case l7 => k_is); (case c7 => k_is); (case k7 => k_is); (case a8 => k_is); (case l8 => k_is); (case c8 => k_is); (case k8 => k_is); (case a9 => k_is); (case l9 => k_is); (case c9 => k_is); (case k9 => k_is); (case a10 => k_is); (case l10 => k_is); (case c10 => k_is); (case k10 => k_is); (case a11 => k_is); (case l11 => k_is); (case c11 => k_is); (case k11 => k_is); (case a12 => k_is); (case l12 => k_is); (case c12 => k_is); (case k12 => k_is); (case a13 => k_is); (case l13 => k_is); (case c13 => k_is); (case k13 => k_is); (case a14 => k_is); (case l14 => k_is); (case c14 => k_is); (case k14 => k_is); (case a15 => k_is); (case l15 => k_is); (case c15 => k_is); (case k15 => k_is); (case a16 => k_is); (case l16 => k_is); (case c16 => k_is); (case k16 => k_is); (case a17 => k_is); (case l17 => k_is); (case c17 => k_is); (case k17 => k_is); (case a18 => k_is); (case l18 => k_is); (case c18 => k_is); (case k18 => k_is); (case a19 => k_is); (case l19 => k_is); (case c19 => k_is); (case k19 => k_is); (case a20 => k_is); (case l20 => k_is); (case c20 => k_is); (case k20 => k_is); (case a21 => k_is); (case l21 => k_is); (case c21 => k_is); (case k21 => k_is); (case a22 => k_is); (case l22 => k_is); (case c22 => k_is); (case k22 => k_is); (case a23 => k_is); (case l23 => k_is); (case c23 => k_is); (case k23 => k_is); (case a24 => k_is); (case l24 => k_is); (case c24 => k_is); (case k24 => k_is); (case a25 => k_is); (case l25 => k_is); (case c25 => k_is); (case k25 => k_is); (case a26 => k_is); (case l26 => k_is); (case c26 => k_is); (case k26 => k_is); (case a27 => k_is); (case l27 => k_is); (case c27 => k_is); (case k27 => k_is); (case a28 => k_is); (case l28 => k_is); (case c28 => k_is); (case k28 => k_is); (case a29 => k_is); (case l29 => k_is); (case c29 => k_is); (case k29 => k_is); (case a30 => k_is); (case l30 => k_is); (case c30 => k_is); (case k30 => k_is); (case a31 => k_is); (case l31 => k_is); (case c31 => k_is); (case k31 => k_is); (case a32 => k_is); (case l32 => k_is); (case c32 => k_is); (case k32 => k_is); (case a33 => k_is); (case l33 => k_is); (case c33 => k_is); (case k33 => k_is); (case a34 => k_is); (case l34 => k_is); (case c34 => k_is); (case k34 => k_is); (case z_len => k_is); (case z_list => k_is); (case z_tuple => k_is); (case z_sum => k_is); (case z_min => k_is); (case z_max => k_is); (case z_int => k_is); (case z_any => k_is); (case z_all => k_is); (case z_sorted => k_is); (case z_isinstance => k_is); (case z_range => k_is); (case z_zip => k_is); (case z_enumerate => k_is); (case z_reversed => k_is); (case z_str => k_is); (case z_bool => k_is); (case z_set => k_is); (case z_dict => k_is)
    (case nl => first | kernel_rfl | rfl)
