import PyProof.Rows.All
import Wide.All
import OpenK.AllK
import Wide.FinOn
import HandS.SortKw
import HandS.Keys
import HandS.Iter
import HandS.Walk
import HandS.Deep
import HandS.Words
import HandS.Exc
import HandS.SortInts
import HandS.SortOrd
import HandS.ForMost
import HandS.ForExc
import HandS.Style
import HandS.TupAny
import HandS.Conv
import HandS.Small
import HandS.IsInst
import KE.GoesEnum
import HandS.Rev
import HandS.RevTup
import HandS.TryOnly
import HandS.HotCalls
import HandS.ExcIs
import HandS.More
import HandS.WordsExc
import HandS.ReplaceLit
import HandS.ReplaceDef
import HandS.ReplaceList
import PyProof.P3Eq
import PySem.Challenge.RW_throng_k14_under_and_other
set_option Elab.async false
set_option linter.all false
set_option maxRecDepth 100000
set_option maxHeartbeats 4000000
namespace En
open PySem PySem.Spec PyProof.Rows L2 SrtO Srt

/-! ### sorted(x, key=f), f a def -/
/-- the place where a key is asked for -/
abbrev in2 (X : Cx) : Cx := { X with A := X.A.in1.in1, xe := fun _ _ => False }
theorem ok_in2 {X : Cx} (ok : X.Ok) : (in2 X).Ok :=
  ⟨ok.mod, ok.kind, ok.glob, ok.blt, ok.above, ok.inj, ok.has, ok.cab, ok.hd, ok.frames, ok.stk, ok.exf, ok.bs, ok.bsz, ok.noex, ok.exfs, ok.funs, ok.frf⟩
section
variable {X : Cx} {pins : List (Addr × Obj)} {σ : L2.St} {H : Hp} {s : Shared}
theorem inv_in2 (I : Inv X pins σ H s) : Inv (in2 X) pins σ H s := ⟨ok_in2 I.ok, I.os, I.bare, I.base, I.loc, I.cell, I.free, I.freeC, I.pin, I.hok, I.len⟩
theorem inv_of2 (ok : X.Ok) (I : Inv (in2 X) pins σ H s) : Inv X pins σ H s := ⟨ok, I.os, I.bare, I.base, I.loc, I.cell, I.free, I.freeC, I.pin, I.hok, I.len⟩
/-- a thing of ours that is pinned changes -/
theorem ghost_upd {kS a : Addr} {o o' oa : Obj} {h' : Heap} {t' : Nat} (I : Inv X (pins ++ [(kS, o), (a, oa)]) σ H s) (hne : kS ≠ a) (hx : X.s_0.heap.objs.size ≤ kS) (h3 : ∀ p ∈ X.pn ++ pins, p.1 ≠ kS)
    (k : ∀ b u, b ≠ kS → s.heap.get? b = some u → h'.get? b = some u) (e : h'.get? kS = some o') (hd : ∀ v, o'.data ≠ .cell v) : Inv X (pins ++ [(kS, o'), (a, oa)]) σ H { s with heap := h', toks := t' } := by
  obtain ⟨k1, k2, k3, k4, k5⟩ := I.pin (kS, o) (List.mem_append_right _ (List.mem_append_right _ (.head _)))
  obtain ⟨a1, a2, a3, a4, a5⟩ := I.pin (a, oa) (List.mem_append_right _ (List.mem_append_right _ (.tail _ (.head _))))
  have hc : ∀ x c, X.env.cells.lookup x = some c → c ≠ kS := fun x c z q => by
    obtain ⟨v, o2, ho, hd2⟩ := I.cell x c z
    rw [q, k1] at ho
    cases ho
    exact k5 _ hd2
  have J := I.unpinned.turned (t' := t') k k2 k3 (.inr hx) hc h3
  refine J.pins_of fun p hp => ?_
  rcases List.mem_append.mp hp with hp | hp
  · exact J.pin p (List.mem_append_right _ hp)
  · rcases List.mem_cons.mp hp with rfl | hp
    · exact ⟨e, k2, k3, k4, hd⟩
    · rw [List.mem_singleton.mp hp]
      exact ⟨k a oa hne.symm a1, a2, a3, a4, a5⟩
end
/-- by the key alone -/
abbrev ltK (p q : Int × V) : Bool := decide (p.1 < q.1)
theorem swoK {β : Type} : Swo fun (p q : Int × β) => decide (p.1 < q.1) := by
  refine ⟨fun x y h => ?_, fun x y z h1 h2 => ?_⟩
  · have a := of_decide_eq_true h
    exact decide_eq_false (by omega)
  · have a := of_decide_eq_false h1
    have b := of_decide_eq_false h2
    exact decide_eq_false (by omega)
def gV (u : Value) : V := (absV u).getD .non
theorem gV_of {x : V} {u : Value} (r : RelV x u) : gV u = x := by unfold gV; rw [r.abs]; rfl
theorem vals_gV : ∀ {us : List Value}, (∀ u ∈ us, ∃ x, RelV x u) → Vals (us.map gV) us
  | [], _ => .nil
  | u :: us, h => by
    obtain ⟨x, r⟩ := h u List.mem_cons_self
    refine .cons ?_ (vals_gV fun v hv => h v (List.mem_cons_of_mem _ hv))
    rw [gV_of r]
    exact r
theorem gV_map : ∀ {xs : List V} {us : List Value}, Vals xs us → us.map gV = xs
  | _, _, .nil => rfl
  | _, _, .cons r q => by rw [List.map_cons, gV_of r, gV_map q]
theorem vals_has : ∀ {xs : List V} {us : List Value}, Vals xs us → ∀ u ∈ us, ∃ x, RelV x u
  | _, _, .nil, u, h => by cases h
  | _, _, .cons r q, u, h => by
    rcases List.mem_cons.mp h with rfl | h
    · exact ⟨_, r⟩
    · exact vals_has q u h
abbrev gK (p : Keyed) : Int × V := (iv p.1, gV p.2)
theorem gK_zip {ks its : List Value} : (ks.zip its).map gK = (ks.map iv).zip (its.map gV) := by
  induction ks generalizing its with
  | nil => rfl
  | cons k ks ih => cases its with
    | nil => rfl
    | cons u its => simp only [List.zip_cons_cons, List.map_cons, ih]
theorem vals_mem {xs : List V} {us : List Value} (r : Vals xs us) : ∀ p ∈ xs.zip us, RelV p.1 p.2 := by
  induction r with
  | nil => exact fun p hp => by cases hp
  | cons a _ ih =>
    intro p hp
    rcases List.mem_cons.mp hp with rfl | hp
    · exact a
    · exact ih p hp
section
variable {X : Cx} {pins : List (Addr × Obj)} {σ : L2.St} {H : Hp} {s : Shared} {l : Addr} {xs : List V} {kz : List Int} {f : Value} {Q : VK}
theorem srk_run (I : Inv X pins σ H s) (hs : SqL X.K H l xs) (hlen : kz.length = xs.length) (ht : ∀ x, Builtin.«list.sort» ⟨[.ref x], [(Str.ofString "key", f)]⟩ = ksk_tree x f false)
    (turn : ∀ (i : Nat) (x : V) (k : Int), xs[i]? = some x → kz[i]? = some k → ∀ (H' : Hp) (pins' : List (Addr × Obj)) (s' : Shared) (u : Value), Same H H' → Inv (in2 X) pins' σ H' s' → RelV x u →
      wpAny (model X.prog X.w) X.A.in1.in1 (call f [u]) (fun v s'' => (∃ t, v = .int k t) ∧ ∃ H'', Same H' H'' ∧ Inv (in2 X) pins' σ H'' s'') (fun _ _ => False) s')
    (q : ∀ (p : Addr) (H' : Hp) (out : List (Int × V)), Same H H' → H' p = none → Srtd ltK out → Stb ltK out (kz.zip xs) → Q (.ref p) (upd H' p (.lst (out.map (·.2))))) :
    wpAny (model X.prog X.w) X.A (call (.builtin "sorted") [.ref l] [(Str.ofString "key", f)]) (EP X pins σ Q) X.xe s := by
  obtain ⟨its, rv, hl, hz⟩ := I.list hs
  have hli : xs.length = its.length := rv.length
  have hzi : its.length ≤ sizeLine := by omega
  refine call_function_entry_kw kind_sorted plain_sorted entry_sorted (ksk_s1 _ _) ?_
  unfold Builtin.«sorted»
  refine wpAny_bind (m := checkCount "sorted" 1 1 _) (wpAny_pure ?_)
  refine wpAny_bind (collect_list hl.isList ?_ (by simpa using hzi))
  refine wpAny_bind (wpAny_newList ?_ (by simpa using hzi))
  have hsz : ((s.heap.push (seqObj "list" #[] 0)).update s.heap.objs.size (Obj.mapSeq (· ++ its.toArray))).objs.size = s.heap.objs.size + 1 := by
    rw [Heap.size_update, size_push']
  have hoL : (((s.heap.push (seqObj "list" #[] 0)).update s.heap.objs.size (Obj.mapSeq (· ++ its.toArray))).push (seqObj "list" its.toArray 0)).get? (s.heap.objs.size + 1) = some (seqObj "list" its.toArray 0) := by
    rw [← hsz]; exact Heap.get?_push_size _ rfl
  have keep : ∀ b o, s.heap.get? b = some o → (((s.heap.push (seqObj "list" #[] 0)).update s.heap.objs.size (Obj.mapSeq (· ++ its.toArray))).push (seqObj "list" its.toArray 0)).get? b = some o := fun b o q => by
    have hlt : b < s.heap.objs.size := Heap.lt_size q
    rw [Heap.get?_push_ne _ _ _ (by rw [hsz]; exact Nat.ne_of_lt (Nat.lt_succ_of_lt hlt)), Heap.get?_update_ne _ _ _ _ (Nat.ne_of_lt hlt), Heap.get?_push_ne _ _ _ (Nat.ne_of_lt hlt)]
    exact q
  show wpAny _ _ _ _ _ { s with heap := ((s.heap.push (seqObj "list" #[] 0)).update s.heap.objs.size (Obj.mapSeq (· ++ its.toArray))).push (seqObj "list" its.toArray 0) }
  rw [hsz]
  refine wpAny_bind (wpAny_holding (wpAny_call_entry_kw slot_list_sort ⟨_, hoL, rfl⟩ entry_list_sort ?body (ksk_l1 _ _)))
  show wpAny (model X.prog X.w) X.A.in1.in1 (Builtin.«list.sort» ⟨[.ref (s.heap.objs.size + 1)], _⟩) _ _ _
  rw [ht]
  generalize hh1 : ((s.heap.push (seqObj "list" #[] 0)).update s.heap.objs.size (Obj.mapSeq (· ++ its.toArray))).push (seqObj "list" its.toArray 0) = h1 at hoL keep ⊢
  generalize ha : s.heap.objs.size + 1 = a at hoL ⊢
  have has : s.heap.objs.size ≤ a := by omega
  obtain ⟨e1, ho1⟩ : ∃ e1, (h1.update a (Obj.mapSeq fun _ => (#[] : Array Value))).get? a = some (seqObj "list" #[] e1) := ⟨_, get?_update_seq hoL fun _ => #[]⟩
  unfold ksk_tree
  refine wpAny_bind (listItems_at hoL rfl ?_)
  refine wpAny_bind (listUpdate_at hoL rfl ?_ (by rw [List.size_toArray]; exact hzi) (Nat.zero_le _))
  refine wpAny_bind (seqEpoch_at ho1 rfl ?_)
  refine wpAny_bind (wpAny_newTuple ?_ (by show its.length ≤ _; exact hzi))
  refine wpAny_bind (wpAny_newList ?_ (Nat.zero_le _))
  refine wpAny_holding ?_
  have hal : a < h1.objs.size := Heap.lt_size hoL
  have hkS : ((h1.update a (Obj.mapSeq fun _ => (#[] : Array Value))).push (seqObj "tuple" its.toArray 0)).objs.size = h1.objs.size + 1 := by rw [size_push', Heap.size_update]
  have keep2 : ∀ b o, s.heap.get? b = some o → (((h1.update a (Obj.mapSeq fun _ => (#[] : Array Value))).push (seqObj "tuple" its.toArray 0)).push (seqObj "list" #[] 0)).get? b = some o := fun b o e => by
    refine Heap.get?_push_of_some _ (Heap.get?_push_of_some _ ?_)
    have hb : b ≠ a := Nat.ne_of_lt (Nat.lt_of_lt_of_le (Heap.lt_size e) has)
    rw [Heap.get?_update_ne _ _ _ _ hb]
    exact keep b o e
  have hoA : (((h1.update a (Obj.mapSeq fun _ => (#[] : Array Value))).push (seqObj "tuple" its.toArray 0)).push (seqObj "list" #[] 0)).get? a = some (seqObj "list" #[] e1) := Heap.get?_push_of_some _ (Heap.get?_push_of_some _ ho1)
  have hoK : (((h1.update a (Obj.mapSeq fun _ => (#[] : Array Value))).push (seqObj "tuple" its.toArray 0)).push (seqObj "list" #[] 0)).get? (h1.objs.size + 1) = some (seqObj "list" #[] 0) := by
    rw [← hkS]; exact Heap.get?_push_size _ rfl
  show wpAny _ _ (ksk_rest a f false its.toArray e1 (.ref ((h1.update a (Obj.mapSeq fun _ => (#[] : Array Value))).push (seqObj "tuple" its.toArray 0)).objs.size)) _ _ { s with heap := ((h1.update a (Obj.mapSeq fun _ => (#[] : Array Value))).push (seqObj "tuple" its.toArray 0)).push (seqObj "list" #[] 0) }
  rw [hkS]
  generalize ((h1.update a (Obj.mapSeq fun _ => (#[] : Array Value))).push (seqObj "tuple" its.toArray 0)).push (seqObj "list" #[] 0) = h2 at keep2 hoA hoK ⊢
  have hs1 : s.heap.objs.size ≤ h1.objs.size + 1 := by omega
  generalize hkk : h1.objs.size + 1 = kS at hoK hs1 ⊢
  have hka : kS ≠ a := Nat.ne_of_gt (by rw [← hkk]; exact Nat.lt_succ_of_lt hal)
  have fpA := (inv_in2 I).fpOk (b := a) has (I.hok.fresh has)
  have fpK := (inv_in2 I).fpOk (b := kS) hs1 (I.hok.fresh hs1)
  have nocell : ∀ {vs : Array Value} {n : Nat} v, (seqObj "list" vs n).data ≠ .cell v := fun v z => by cases z
  have I2 : Inv (in2 X) (pins ++ [(kS, seqObj "list" #[] 0), (a, seqObj "list" #[] e1)]) σ H { s with heap := h2 } := by
    have J := (inv_in2 I).kept (t' := s.toks) keep2
    refine J.pins_of fun p hp => ?_
    rcases List.mem_append.mp hp with hp | hp
    · exact J.pin p (List.mem_append_right _ hp)
    · rcases List.mem_cons.mp hp with rfl | hp
      · exact ⟨hoK, fpK.1, fpK.2.1, fpK.2.2.1, nocell⟩
      · rw [List.mem_singleton.mp hp]
        exact ⟨hoA, fpA.1, fpA.2.1, fpA.2.2.1, nocell⟩
  have hxK : (in2 X).s_0.heap.objs.size ≤ kS := Nat.le_trans I.sz hs1
  have hpK : ∀ p ∈ (in2 X).pn ++ pins, p.1 ≠ kS := fpK.2.2.2.2.2
  have hpA : ∀ p ∈ (in2 X).pn ++ pins, p.1 ≠ a := fpA.2.2.2.2.2
  unfold ksk_rest
  refine wpAny_bind (wpAny_rule ?_)
  first
    | rw [List.forIn_toArray]
    | (rw [← Array.forIn_toList]; simp only [List.toList_toArray])
    | rw [← Array.forIn_toList]
  refine wpAny_bind (ksk_fold (fun i s' => ∃ H' kA e, Same H H' ∧ Inv (in2 X) (pins ++ [(kS, seqObj "list" kA e), (a, seqObj "list" #[] e1)]) σ H' s' ∧ IntsAre kA.toList (kz.take i)) its 0 _
    ⟨H, #[], 0, fun _ _ z => z, I2, by simpa using IntsAre.nil⟩ ?step ?done)
  case step =>
    rintro j u s' hu ⟨H', kA, e, sm, I', hk⟩
    simp only [Nat.zero_add] at hk ⊢
    have hj : j < its.length := (List.getElem?_eq_some_iff.mp hu).1
    obtain ⟨k, hkj⟩ : ∃ k, kz[j]? = some k := ⟨_, List.getElem?_eq_getElem (by omega)⟩
    obtain ⟨x, hx⟩ : ∃ x, xs[j]? = some x := ⟨_, List.getElem?_eq_getElem (by omega)⟩
    have hrel : RelV x u := by
      refine vals_mem rv (x, u) (List.mem_of_getElem? (i := j) ?_)
      rw [List.getElem?_zip_eq_some]
      exact ⟨hx, hu⟩
    have hz2 : kA.size ≤ its.length := by
      have h1 := hk.length
      rw [Array.length_toList, List.length_take] at h1
      omega
    refine wpAny_bind (wpAny_attempt (wpAny_mono (turn j x k hx hkj H' _ s' u sm I' hrel) (fun v s'' he => ?_) fun _ _ hF => hF.elim))
    obtain ⟨⟨t2, rfl⟩, H'', sm2, I''⟩ := he
    try dsimp only
    obtain ⟨k1, k2, k3, k4, k5⟩ := I''.pin (kS, seqObj "list" kA e) (List.mem_append_right _ (List.mem_append_right _ (.head _)))
    have s1 := Heap.SameBut.update s''.heap kS (Obj.mapSeq (·.push (.int k t2)))
    obtain ⟨c2, hc2⟩ : ∃ c2, (s''.heap.update kS (Obj.mapSeq (·.push (.int k t2)))).get? kS = some (seqObj "list" (kA.push (.int k t2)) c2) := ⟨_, get?_update_seq k1 (·.push (.int k t2))⟩
    have ek : kz.take (j + 1) = kz.take j ++ [k] := by rw [List.take_add_one, hkj]; simp
    have ea : (kA.push (Value.int k t2)).toList = kA.toList ++ [Value.int k t2] := by simp
    refine wpAny_bind (listUpdate_at k1 rfl ?_ (Nat.le_trans hz2 hzi) (Nat.le_trans (Nat.le_of_eq (Array.size_push ..)) (by omega)))
    refine wpAny_pure ⟨rfl, H'', kA.push (.int k t2), c2, sm.trans sm2, ghost_upd I'' hka hxK hpK (fun b o hb e => (s1.2 b hb).trans e) hc2 nocell, by rw [ea, ek]; exact ksk_snoc hk⟩
  case done =>
    rintro s' ⟨H', kA, e, sm, I', hk⟩
    have hk' : IntsAre kA.toList kz := by
      have e3 : kz.take (0 + its.length) = kz := List.take_of_length_le (by omega)
      rw [e3] at hk
      exact hk
    obtain ⟨k1, k2, k3, k4, k5⟩ := I'.pin (kS, seqObj "list" kA e) (List.mem_append_right _ (List.mem_append_right _ (.head _)))
    obtain ⟨a1, a2, a3, a4, a5⟩ := I'.pin (a, seqObj "list" #[] e1) (List.mem_append_right _ (List.mem_append_right _ (.tail _ (.head _))))
    try dsimp only
    refine wpAny_bind (listItems_at k1 rfl ?_)
    have hsk : kA.size = its.length := by
      have h1 := hk'.length
      rw [Array.length_toList] at h1
      omega
    have hmem : ∀ p ∈ (kA.zip its.toArray).toList, p.1 ∈ kA.toList := fun p hp => by
      rw [ksk_zip] at hp
      exact (List.of_mem_zip hp).1
    -- what comes out
    have tail_ : ∀ (st : SortSt), Srtd (lt2 ltIv) (arrOf st).toList → Stb (lt2 ltIv) (arrOf st).toList (kA.zip its.toArray).toList → failedOf st = none →
        wpAny (model X.prog X.w) X.A.in1.in1 (ksk_tail a false e1 (.ref kS) st) (fun r s'' => r = .done (.ret .none) ∧ EP X pins σ Q (.ref a) s'') X.xe s' := by
      intro st o1 o2 o3
      rw [ksk_zip] at o2
      have hlz : (arrOf st).size = its.length := by
        have := o2.perm.length_eq
        rw [Array.length_toList, List.length_zip, Array.length_toList, hsk, Nat.min_self] at this
        exact this
      have hout : ((arrOf st).map (·.2)).size = its.length := by rw [Array.size_map]; exact hlz
      have s1 := Heap.SameBut.update s'.heap kS (Obj.mapSeq fun _ => (#[] : Array Value))
      have na1 : (s'.heap.update kS (Obj.mapSeq fun _ => (#[] : Array Value))).get? a = some (seqObj "list" #[] e1) := (s1.2 a hka.symm).trans a1
      have s2 := Heap.SameBut.update (s'.heap.update kS (Obj.mapSeq fun _ => (#[] : Array Value))) a (Obj.mapSeq fun _ => (arrOf st).map (·.2))
      obtain ⟨c2, hc2⟩ : ∃ c2, ((s'.heap.update kS (Obj.mapSeq fun _ => (#[] : Array Value))).update a (Obj.mapSeq fun _ => (arrOf st).map (·.2))).get? a = some (seqObj "list" ((arrOf st).map (·.2)) c2) :=
        ⟨_, get?_update_seq na1 fun _ => (arrOf st).map (·.2)⟩
      have J1 := ghost_upd (t' := s'.toks) I' hka hxK hpK (fun b o hb e => (s1.2 b hb).trans e) (get?_update_seq k1 fun _ => (#[] : Array Value)) nocell
      have fa : FpOk (in2 X) pins H' a := ⟨a2, a3, a4, .inr (Nat.le_trans I.sz has), fpA.2.2.2.2.1, hpA⟩
      unfold ksk_tail
      try dsimp only
      refine wpAny_bind (listUpdate_at k1 rfl ?_ (by rw [hsk]; exact hzi) (Nat.zero_le _))
      refine wpAny_bind (wpAny_letGo ?_)
      refine wpAny_bind (seqEpoch_at na1 rfl ?_)
      refine wpAny_bind (listUpdate_at na1 rfl ?_ (Nat.zero_le _) (Nat.le_trans (Nat.le_of_eq hout) (by omega)))
      rw [o3]
      simp only [bne_self_eq_false, Bool.false_eq_true, if_false]
      have hrel : ∀ p ∈ (arrOf st).toList, ∃ x, RelV x p.2 := fun p hp => vals_has rv p.2 (List.of_mem_zip (o2.perm.mem_iff.mp hp)).2
      have hv : Vals (((arrOf st).toList.map gK).map (·.2)) ((arrOf st).map (·.2)).toList := by
        have e : ((arrOf st).toList.map gK).map (·.2) = (((arrOf st).map (·.2)).toList).map gV := by
          rw [Array.toList_map, List.map_map, List.map_map]
          rfl
        rw [e]
        refine vals_gV fun u hu => ?_
        rw [Array.toList_map] at hu
        obtain ⟨p, hp, rfl⟩ := List.mem_map.mp hu
        exact hrel p hp
      have hlen2 : (((arrOf st).toList.map gK).map (·.2)).length ≤ sizeLine := by
        rw [List.length_map, List.length_map, Array.length_toList, hlz]
        exact hzi
      have J2 := J1.unpinned.take (t' := s'.toks) (o := .lst (((arrOf st).toList.map gK).map (·.2))) (fun b o hb e => (s2.2 b hb).trans e) fa ⟨hlen2, _, c2, hv, by rw [Array.toArray_toList]; exact hc2⟩
      have St := Stb.map swoK gK (l := (arrOf st).toList) (m := kA.toList.zip its) o2
      rw [gK_zip, gV_map rv, iv_ints hk'] at St
      refine wpAny_pure ⟨rfl, .ref a, _, inv_of2 I.ok J2, rfl, q a H' _ sm a2 (List.pairwise_map.mpr o1) St⟩
    have fin : wpAny (model X.prog X.w) X.A.in1.in1 (ksk_end a false its.toArray e1 (.ref kS) kA) (fun r s'' => r = .done (.ret .none) ∧ EP X pins σ Q (.ref a) s'') X.xe s' := by
      unfold ksk_end
      simp only [Bool.false_eq_true, if_false]
      by_cases h2 : its.toArray.size < 2
      · rw [if_pos h2, if_pos h2]
        refine wpAny_bind (wpAny_pure ?_)
        rw [StateT.run_pure]
        refine wpAny_bind (wpAny_pure ?_)
        try dsimp only
        refine tail_ (SortSt.mk' general' (kA.zip its.toArray) #[] 7 none) ?_ (Stb.refl _) rfl
        show Srtd (lt2 ltIv) (kA.zip its.toArray).toList
        have hl2 : (kA.zip its.toArray).toList.length < 2 := by
          rw [ksk_zip, List.length_zip, Array.length_toList, hsk]
          rw [List.size_toArray] at h2
          omega
        generalize (kA.zip its.toArray).toList = z at hl2
        match z, hl2 with
        | [], _ => exact List.Pairwise.nil
        | [v], _ => exact List.pairwise_singleton _ _
        | _ :: _ :: l, h => exact absurd h (by rw [List.length_cons, List.length_cons]; omega)
      · rw [if_neg h2, if_neg h2]
        rw [List.size_toArray] at h2
        rw [ksk_kind hk' (by rw [hsk]; omega)]
        refine wpAny_bind (wpAny_pure ?_)
        refine wpAny_bind (wpAny_mono (wpS_sortO (st0 := SortSt.mk' oneType' (kA.zip its.toArray) #[] 7 none)
          (Q := fun _ st' => Srtd (lt2 ltIv) (arrOf st').toList ∧ Stb (lt2 ltIv) (arrOf st').toList (kA.zip its.toArray).toList ∧ failedOf st' = none) (swo2 swo_int) (int_cmp hk') rfl hmem rfl rfl fun st' a1 a2 a3 => ⟨a1, a2, a3⟩) ?_ fun _ _ e => e)
        rintro ⟨⟨⟩, st'⟩ s4 ⟨rfl, hp1, hp2, hf⟩
        try dsimp only
        exact tail_ st' hp1 hp2 hf
    refine wpAny_mono fin (fun r s'' h => ?_) fun _ _ z => z
    obtain ⟨rfl, h⟩ := h
    refine ⟨_, rfl, ?_⟩
    exact wpAny_pure ⟨_, rfl, h⟩
end
/-! the one such list -/
section
variable {β γ : Type}
abbrev ltI (p q : Int × β) : Bool := decide (p.1 < q.1)
def insK (p : Int × β) : List (Int × β) → List (Int × β)
  | [] => [p]
  | q :: l => if q.1 < p.1 then q :: insK p l else p :: q :: l
def srtK (l : List (Int × β)) : List (Int × β) := l.foldr insK []
theorem insK_map (f : β → γ) (p : Int × β) : ∀ l : List (Int × β), insK (p.1, f p.2) (l.map fun q => (q.1, f q.2)) = (insK p l).map fun q => (q.1, f q.2)
  | [] => rfl
  | q :: l => by
    rw [List.map_cons]
    unfold insK
    split
    · rw [List.map_cons, insK_map f p l]
    · rfl
theorem srtK_map (f : β → γ) : ∀ l : List (Int × β), srtK (l.map fun q => (q.1, f q.2)) = (srtK l).map fun q => (q.1, f q.2)
  | [] => rfl
  | q :: l => by
    show insK (q.1, f q.2) (srtK (l.map fun q => (q.1, f q.2))) = _
    rw [srtK_map f l, insK_map]
    rfl
theorem insK_srtd (p : Int × β) : ∀ {l : List (Int × β)}, Srtd ltI l → Srtd ltI (insK p l) ∧ ∃ A B, l = A ++ B ∧ insK p l = A ++ p :: B ∧ ∀ a ∈ A, ltI a p = true
  | [], _ => ⟨List.pairwise_singleton _ _, [], [], rfl, rfl, fun a h => by cases h⟩
  | q :: l, h => by
    unfold insK
    have hq := List.pairwise_cons.mp h
    split
    · rename_i hlt
      obtain ⟨h1, A, B, e1, e2, h2⟩ := insK_srtd p hq.2
      refine ⟨List.pairwise_cons.mpr ⟨fun z hz => ?_, h1⟩, q :: A, B, by rw [e1]; rfl, by rw [e2]; rfl, fun a ha => ?_⟩
      · rw [e2] at hz
        have : z = p ∨ z ∈ l := by
          rw [e1]
          rcases List.mem_append.mp hz with z1 | z1
          · exact .inr (List.mem_append_left _ z1)
          · rcases List.mem_cons.mp z1 with z1 | z1
            · exact .inl z1
            · exact .inr (List.mem_append_right _ z1)
        rcases this with rfl | hz
        · exact decide_eq_false (by omega)
        · exact hq.1 z hz
      · rcases List.mem_cons.mp ha with rfl | ha
        · exact decide_eq_true hlt
        · exact h2 a ha
    · rename_i hlt
      refine ⟨List.pairwise_cons.mpr ⟨fun z hz => ?_, h⟩, [], q :: l, rfl, rfl, fun a ha => by cases ha⟩
      rcases List.mem_cons.mp hz with rfl | hz
      · exact decide_eq_false hlt
      · have := of_decide_eq_false (hq.1 z hz)
        exact decide_eq_false (by omega)
theorem stb_move {p : Int × β} : ∀ {A B : List (Int × β)}, (∀ a ∈ A, ltI a p = true) → Stb ltI (A ++ p :: B) (p :: (A ++ B)) := fun {A B} h => by
  refine ⟨List.perm_middle, fun x => ?_⟩
  rw [List.filter_append, List.filter_cons, List.filter_cons, List.filter_append]
  split
  · rename_i hx
    have e : A.filter (eqv ltI x) = [] := List.filter_eq_nil_iff.mpr fun a ha z => by
      have h1 := of_decide_eq_true (h a ha)
      obtain ⟨x1, x2⟩ := eqv_iff.mp hx
      obtain ⟨y1, y2⟩ := eqv_iff.mp z
      have x1 := of_decide_eq_false x1
      have x2 := of_decide_eq_false x2
      have y1 := of_decide_eq_false y1
      have y2 := of_decide_eq_false y2
      omega
    rw [e]
    rfl
  · rfl
theorem stb_cons (p : Int × β) {l m : List (Int × β)} (h : Stb ltI l m) : Stb ltI (p :: l) (p :: m) := ⟨h.perm.cons p, fun x => by
  rw [List.filter_cons, List.filter_cons, h.cls x]⟩
theorem srtK_ok : ∀ l : List (Int × β), Srtd ltI (srtK l) ∧ Stb ltI (srtK l) l
  | [] => ⟨List.Pairwise.nil, Stb.refl _⟩
  | p :: l => by
    obtain ⟨h1, h2⟩ := srtK_ok l
    obtain ⟨k1, A, B, e1, e2, k2⟩ := insK_srtd p h1
    refine ⟨k1, ?_⟩
    show Stb ltI (insK p (srtK l)) (p :: l)
    rw [e2]
    refine (stb_move k2).trans ?_
    rw [← e1]
    exact stb_cons p h2
end
theorem srtK_uniq {out : List (Int × V)} {l : List (Int × V)} (h1 : Srtd ltK out) (h2 : Stb ltK out l) : out = srtK l :=
  stb_uniq swoK h1 (srtK_ok l).1 (h2.trans ⟨(srtK_ok l).2.perm.symm, fun x => ((srtK_ok l).2.cls x).symm⟩)
/-! as a rule -/
def rSrk (K : PySem.W.Frag) (fa : Addr) (sp : Sp) : List V → List V → Hp → VK → Prop := fun vs zs H Q => ∃ (l : Addr) (xs : List V) (kz : List Int), vs = [.ref l] ∧ zs = [.ref fa] ∧ SqL K H l xs ∧ kz.length = xs.length ∧
  (∀ (i : Nat) (x : V) (k : Int), xs[i]? = some x → kz[i]? = some k → ∀ H', Same H H' → sp [x] H' (fun v H'' => v = .int k ∧ Same H' H'') (fun _ _ _ => False)) ∧
  ∀ p H', Same H H' → H' p = none → Q (.ref p) (upd H' p (.lst ((srtK (kz.zip xs)).map (·.2))))
theorem cx_no {P : Program} {w : World} {outer : List Env} {H : Hp} {s s' : Shared} {e : Value} (h : L2.CX P w outer H s (fun _ _ _ => False) e s') : False := by
  obtain ⟨_, _, _, _, _, _, _, _, _, _, _, _, z⟩ := h
  exact z
theorem cr_srk {X : Cx} {k : Nat} {fa : Addr} {fd : FuncData} {ps : List Str} {sp : Sp} (F : FnOk X.prog X.w X.K X.mg X.base (L2.CX X.prog X.w) k fa fd ps sp) (hr : Room (k + 2) X.A) (hb : Binds X.K fd ps []) : CallRK X (.builtin "sorted") [Str.ofString "key"] (rSrk X.K fa sp) := by
  intro pins s σ H vs zs us ws Q I r rz h
  obtain ⟨l, xs, kz, rfl, rfl, hs, hlen, hk, q⟩ := h
  obtain rfl := Vals.ref1 r
  obtain rfl := Vals.ref1 rz
  refine srk_run I hs hlen (fun x => ksk_t1 fa x) (fun i x kk hx hkk H' pins' s' u sm I' ru => ?_) (fun p H' out sm hp h1 h2 => by rw [srtK_uniq h1 h2]; exact q p H' sm hp)
  have hr2 : Room k (in2 X).A := hr.in1.in1
  have hsp := hk i x kk hx hkk H' sm
  refine wpAny_mono (run_fn (X := in2 X) (E := fun _ _ _ => False) F hr2 hb (dvs := []) .nil (fun _ _ _ _ _ _ _ c => (cx_no c).elim) I' (.cons ru .nil) (by rw [List.append_nil]; exact hsp)) (fun v s'' he => ?_) fun _ _ z => z
  obtain ⟨w, H'', I'', rw', rfl, sm2⟩ := he
  obtain ⟨t, rfl⟩ := rw'
  exact ⟨⟨t, rfl⟩, H'', sm2, I''⟩
theorem pe_srk {X : Cx} {k : Nat} {fa : Addr} {fd : FuncData} {ps : List Str} {sp : Sp} {f : Str} {e : Expr} {te : TE} {p1 p2 pos kp : Pos} (F : FnOk X.prog X.w X.K X.mg X.base (L2.CX X.prog X.w) k fa fd ps sp) (hr : Room (k + 2) X.A) (hb : Binds X.K fd ps [])
    (hg : Gl X "sorted") (hm : X.mg "sorted" = none) (hf : Gl X f) (hfd : (f == ("__debug__" : Str)) = false) (hmf : X.mg f = some (.ref fa)) (he : PE X e te) (hst : starEach [e] X.env = (false, eval e X.env) :: starEach [] X.env) :
    PE X (.Call (.Name "sorted" p1) [e] [⟨some (Str.ofString "key"), .Name f p2, kp⟩] pos) (tCKw (rSrk X.K fa sp) (tCons te tNil) (tCons (tC (.ref fa)) tNil)) :=
  pe_callBK (cr_srk F hr hb) hg hm rfl (pa_cons he pa_nil hst) (pk_cons (pe_glob hf hmf rfl hfd) pk_nil) (by decide) (by decide) (by rw [hst]; rfl) (by rw [hst]; rfl)
end En

set_option Elab.async false
set_option linter.all false
set_option maxRecDepth 100000
set_option maxHeartbeats 4000000
namespace En
open PySem PySem.Spec PyProof.Rows L2

abbrev D := PyData
abbrev AS := Addr → Prop
def keyD : Key → D
  | .inl i => .int i
  | .inr x => .str x

/-! ### data in the heap: lists and dicts at addresses of L, tuples anywhere -/
mutual
inductive Dt (H : Hp) (L : AS) : V → D → Prop
  | non : Dt H L .non .none
  | bl (b : Bool) : Dt H L (.bl b) (.bool b)
  | int (i : Int) : Dt H L (.int i) (.int i)
  | str (x : Str) : Dt H L (.str x) (.str x)
  | lst {a : Addr} {xs : List V} {ds : List D} : L a → Rd H a (.lst xs) → Dts H L xs ds → Dt H L (.ref a) (.list ds)
  | tup {a : Addr} {xs : List V} {ds : List D} : Rd H a (.tup xs) → Dts H L xs ds → Dt H L (.ref a) (.tuple ds)
  | dK {a : Addr} {kvs : List (Key × V)} {es : List (D × D)} : L a → H a = some (.dK kvs) → es.map (·.1) = kvs.map (fun kv => keyD kv.1) → Dvs H L (kvs.map (·.2)) es → Dt H L (.ref a) (.dict es)
inductive Dts (H : Hp) (L : AS) : List V → List D → Prop
  | nil : Dts H L [] []
  | cons {v : V} {vs : List V} {d : D} {ds : List D} : Dt H L v d → Dts H L vs ds → Dts H L (v :: vs) (d :: ds)
inductive Dvs (H : Hp) (L : AS) : List V → List (D × D) → Prop
  | nil : Dvs H L [] []
  | cons {v : V} {vs : List V} {e : D × D} {es : List (D × D)} : Dt H L v e.2 → Dvs H L vs es → Dvs H L (v :: vs) (e :: es)
end

mutual
theorem Dt.go {H H' : Hp} {L L' : AS} (hl : ∀ a u, L a → H a = some u → H' a = some u ∧ L' a) (ht : ∀ a xs, Rd H a (.tup xs) → Rd H' a (.tup xs)) : ∀ (d : D) (v : V), Dt H L v d → Dt H' L' v d
  | .none, _, h => by cases h; exact .non
  | .bool _, _, h => by cases h; exact .bl _
  | .int _, _, h => by cases h; exact .int _
  | .str _, _, h => by cases h; exact .str _
  | .list ds, _, h => by
    cases h with
    | lst q r s =>
      have z : Rd H' _ _ ∧ L' _ := r.elim (fun e => ⟨.inl (hl _ _ q e).1, (hl _ _ q e).2⟩) fun ⟨o, e⟩ => ⟨.inr ⟨o, (hl _ _ q e).1⟩, (hl _ _ q e).2⟩
      exact .lst z.2 z.1 (Dts.go hl ht ds _ s)
  | .tuple ds, _, h => by
    cases h with
    | tup r s => exact .tup (ht _ _ r) (Dts.go hl ht ds _ s)
  | .dict es, _, h => by
    cases h with
    | dK q r e s => exact .dK (hl _ _ q r).2 (hl _ _ q r).1 e (Dvs.go hl ht es _ s)
theorem Dts.go {H H' : Hp} {L L' : AS} (hl : ∀ a u, L a → H a = some u → H' a = some u ∧ L' a) (ht : ∀ a xs, Rd H a (.tup xs) → Rd H' a (.tup xs)) : ∀ (ds : List D) (vs : List V), Dts H L vs ds → Dts H' L' vs ds
  | [], _, h => by cases h; exact .nil
  | d :: ds, _, h => by
    cases h with
    | cons h1 h2 => exact .cons (Dt.go hl ht d _ h1) (Dts.go hl ht ds _ h2)
theorem Dvs.go {H H' : Hp} {L L' : AS} (hl : ∀ a u, L a → H a = some u → H' a = some u ∧ L' a) (ht : ∀ a xs, Rd H a (.tup xs) → Rd H' a (.tup xs)) : ∀ (es : List (D × D)) (vs : List V), Dvs H L vs es → Dvs H' L' vs es
  | [], _, h => by cases h; exact .nil
  | e :: es, _, h => by
    cases h with
    | cons h1 h2 => exact .cons (Dt.go hl ht e.2 _ h1) (Dvs.go hl ht es _ h2)
end

theorem sm_rd {H H' : Hp} (e : Same H H') {a : Addr} {u : HO} (h : Rd H a u) : Rd H' a u := by
  rcases h with h | ⟨o, h⟩
  · exact .inl (e _ _ h)
  · exact .inr ⟨o, e _ _ h⟩
theorem same_new {H : Hp} {p : Addr} {o : HO} (h : H p = none) : Same H (upd H p o) := fun b x e => by
  rw [upd_ne (ne_of_none e h)]
  exact e
theorem sm_dt {H H' : Hp} {L : AS} (e : Same H H') {d : D} {v : V} (h : Dt H L v d) : Dt H' L v d := Dt.go (fun _ _ l r => ⟨e _ _ r, l⟩) (fun _ _ r => sm_rd e r) d v h
theorem sm_dts {H H' : Hp} {L : AS} (e : Same H H') {ds : List D} {vs : List V} (h : Dts H L vs ds) : Dts H' L vs ds := Dts.go (fun _ _ l r => ⟨e _ _ r, l⟩) (fun _ _ r => sm_rd e r) ds vs h
theorem sm_dvs {H H' : Hp} {L : AS} (e : Same H H') {es : List (D × D)} {vs : List V} (h : Dvs H L vs es) : Dvs H' L vs es := Dvs.go (fun _ _ l r => ⟨e _ _ r, l⟩) (fun _ _ r => sm_rd e r) es vs h
theorem Dt.wk {H : Hp} {L L' : AS} (l : ∀ a, L a → L' a) {d : D} {v : V} (h : Dt H L v d) : Dt H L' v d := Dt.go (fun a _ q r => ⟨r, l a q⟩) (fun _ _ r => r) d v h
theorem Dts.wk {H : Hp} {L L' : AS} (l : ∀ a, L a → L' a) {ds : List D} {vs : List V} (h : Dts H L vs ds) : Dts H L' vs ds := Dts.go (fun a _ q r => ⟨r, l a q⟩) (fun _ _ r => r) ds vs h
theorem Dvs.wk {H : Hp} {L L' : AS} (l : ∀ a, L a → L' a) {es : List (D × D)} {vs : List V} (h : Dvs H L vs es) : Dvs H L' vs es := Dvs.go (fun a _ q r => ⟨r, l a q⟩) (fun _ _ r => r) es vs h

theorem Dts.length {H : Hp} {L : AS} : ∀ {vs : List V} {ds : List D}, Dts H L vs ds → vs.length = ds.length
  | [], _, h => by cases h; rfl
  | _ :: _, _, h => by
    cases h with
    | cons _ t => rw [List.length_cons, List.length_cons, t.length]
theorem Dts.append {H : Hp} {L : AS} : ∀ {vs ws : List V} {ds es : List D}, Dts H L vs ds → Dts H L ws es → Dts H L (vs ++ ws) (ds ++ es)
  | [], _, _, _, h, k => by cases h; exact k
  | _ :: _, _, _, _, h, k => by
    cases h with
    | cons q t => exact .cons q (t.append k)
theorem Dts.reverse {H : Hp} {L : AS} : ∀ {vs : List V} {ds : List D}, Dts H L vs ds → Dts H L vs.reverse ds.reverse
  | [], _, h => by cases h; exact .nil
  | v :: vs, _, h => by
    cases h with
    | cons q t =>
      rw [List.reverse_cons, List.reverse_cons]
      exact t.reverse.append (.cons q .nil)
theorem Dts.get {H : Hp} {L : AS} : ∀ {vs : List V} {ds : List D} {i : Nat} {d : D}, Dts H L vs ds → ds[i]? = some d → ∃ v, vs[i]? = some v ∧ Dt H L v d
  | [], _, _, _, h, e => by cases h; simp at e
  | v :: _, _, 0, _, h, e => by
    cases h with
    | cons q t => simp at e; subst e; exact ⟨v, rfl, q⟩
  | _ :: _, _, i + 1, _, h, e => by
    cases h with
    | cons q t => simpa using t.get (i := i) (by simpa using e)
theorem Dts.getV {H : Hp} {L : AS} : ∀ {vs : List V} {ds : List D} {i : Nat} {v : V}, Dts H L vs ds → vs[i]? = some v → ∃ d, ds[i]? = some d ∧ Dt H L v d
  | [], _, _, _, h, e => by simp at e
  | _ :: _, _, 0, _, h, e => by
    cases h with
    | cons q t => simp at e; subst e; exact ⟨_, rfl, q⟩
  | _ :: _, _, i + 1, _, h, e => by
    cases h with
    | cons q t => simpa using t.getV (i := i) (by simpa using e)
theorem Dts.drop {H : Hp} {L : AS} : ∀ {vs : List V} {ds : List D} (n : Nat), Dts H L vs ds → Dts H L (vs.drop n) (ds.drop n)
  | _, _, 0, h => by simpa using h
  | [], _, n + 1, h => by cases h; simpa using Dts.nil
  | _ :: _, _, n + 1, h => by
    cases h with
    | cons q t => simpa using t.drop n
theorem Dts.take {H : Hp} {L : AS} : ∀ {vs : List V} {ds : List D} (n : Nat), Dts H L vs ds → Dts H L (vs.take n) (ds.take n)
  | _, _, 0, h => by simpa using Dts.nil
  | [], _, n + 1, h => by cases h; simpa using Dts.nil
  | _ :: _, _, n + 1, h => by
    cases h with
    | cons q t => simpa using Dts.cons q (t.take n)
theorem Dts.set {H : Hp} {L : AS} {v : V} {d : D} (q : Dt H L v d) : ∀ {vs : List V} {ds : List D} (i : Nat), Dts H L vs ds → Dts H L (vs.set i v) (ds.set i d)
  | [], _, _, h => by cases h; simpa using Dts.nil
  | _ :: _, _, 0, h => by
    cases h with
    | cons r t => simpa using Dts.cons q t
  | _ :: _, _, i + 1, h => by
    cases h with
    | cons r t => simpa using Dts.cons r (t.set q i)
theorem Dts.rev {H : Hp} {L : AS} : ∀ {vs : List V} {ds : List D}, Dts H L vs ds → Dts H L vs.reverse ds.reverse
  | [], _, h => by cases h; simpa using Dts.nil
  | _ :: _, _, h => by
    cases h with
    | cons r t => simpa using t.rev.append (.cons r .nil)
theorem Dts.cons_inv {H : Hp} {L : AS} {v : V} {vs : List V} {d : D} {ds : List D} (h : Dts H L (v :: vs) (d :: ds)) : Dt H L v d ∧ Dts H L vs ds := by
  cases h with
  | cons a b => exact ⟨a, b⟩
theorem Dts.cons_inv' {H : Hp} {L : AS} {vs : List V} {d : D} {ds : List D} (h : Dts H L vs (d :: ds)) : ∃ v ws, vs = v :: ws ∧ Dt H L v d ∧ Dts H L ws ds := by
  cases h with
  | cons a b => exact ⟨_, _, rfl, a, b⟩
theorem dts_new {H : Hp} {L : AS} {p : Addr} {o : HO} (hp : H p = none) {ds : List D} {vs : List V} (h : Dts H L vs ds) : Dts (upd H p o) (fun b => L b ∧ b ≠ p) vs ds :=
  Dts.go (fun a _ l e => ⟨same_new hp _ _ e, l, fun z => by rw [z, hp] at e; cases e⟩) (fun _ _ r => sm_rd (same_new hp) r) ds vs h
/-- all of it -/
abbrev Any : AS := fun _ => True
mutual
def noD : D → Bool
  | .list ds => noDs ds
  | .tuple ds => noDs ds
  | .dict _ => false
  | _ => true
def noDs : List D → Bool
  | [] => true
  | d :: ds => noD d && noDs ds
end
mutual
theorem Dt.dp {K : PySem.W.Frag} {H : Hp} {L : AS} : ∀ (d : D) (v : V), noD d = true → Dt H L v d → Dp K H v d
  | .none, _, _, h => by cases h; exact .non
  | .bool _, _, _, h => by cases h; exact .bl _
  | .int _, _, _, h => by cases h; exact .int _
  | .str _, _, _, h => by cases h; exact .str _
  | .list ds, _, n, h => by
    cases h with
    | lst q r s => exact .lst (.inl r) (Dts.dp ds _ (by simpa [noD] using n) s)
  | .tuple ds, _, n, h => by
    cases h with
    | tup r s => exact .tup (.inl r) (Dts.dp ds _ (by simpa [noD] using n) s)
  | .dict es, _, n, h => by simp [noD] at n
theorem Dts.dp {K : PySem.W.Frag} {H : Hp} {L : AS} : ∀ (ds : List D) (vs : List V), noDs ds = true → Dts H L vs ds → DpAll K H vs ds
  | [], _, _, h => by cases h; exact .nil
  | d :: ds, _, n, h => by
    simp only [noDs, Bool.and_eq_true] at n
    cases h with
    | cons h1 h2 => exact .cons (Dt.dp d _ n.1 h1) (Dts.dp ds _ n.2 h2)
end
mutual
theorem noD_of : ∀ d : D, d.canLay0 = true → noD d = true
  | .none, _ => rfl
  | .bool _, _ => rfl
  | .int _, _ => rfl
  | .str _, _ => rfl
  | .list ds, h => by simp only [PyData.canLay0] at h; simpa [noD] using noDs_of ds h
  | .tuple ds, h => by simp only [PyData.canLay0] at h; simpa [noD] using noDs_of ds h
  | .dict _, h => by simp [PyData.canLay0] at h
theorem noDs_of : ∀ ds : List D, PyData.canLayAll0 ds = true → noDs ds = true
  | [], _ => rfl
  | d :: ds, h => by
    simp only [PyData.canLayAll0, Bool.and_eq_true] at h
    simp [noDs, noD_of d h.1, noDs_of ds h.2]
end

/-- what is known of the top: the content, what is in it lies in L -/
inductive Cn (H : Hp) (L : AS) : V → D → Prop
  | non : Cn H L .non .none
  | bl (b : Bool) : Cn H L (.bl b) (.bool b)
  | int (i : Int) : Cn H L (.int i) (.int i)
  | str (x : Str) : Cn H L (.str x) (.str x)
  | lst {a : Addr} {xs : List V} {ds : List D} : Rd H a (.lst xs) → Dts H L xs ds → Cn H L (.ref a) (.list ds)
  | tup {a : Addr} {xs : List V} {ds : List D} : Rd H a (.tup xs) → Dts H L xs ds → Cn H L (.ref a) (.tuple ds)
  | dK {a : Addr} {kvs : List (Key × V)} {es : List (D × D)} : H a = some (.dK kvs) → es.map (·.1) = kvs.map (fun kv => keyD kv.1) → Dvs H L (kvs.map (·.2)) es → Cn H L (.ref a) (.dict es)
theorem Dt.cn {H : Hp} {L : AS} {v : V} {d : D} (h : Dt H L v d) : Cn H L v d := by
  cases h with
  | non => exact .non
  | bl b => exact .bl b
  | int i => exact .int i
  | str x => exact .str x
  | lst _ r s => exact .lst r s
  | tup r s => exact .tup r s
  | dK _ r e s => exact .dK r e s
theorem Cn.any {H : Hp} {L : AS} {v : V} {d : D} (h : Cn H L v d) : Dt H Any v d := by
  cases h with
  | non => exact .non
  | bl b => exact .bl b
  | int i => exact .int i
  | str x => exact .str x
  | lst r s => exact .lst trivial r (s.wk fun _ _ => trivial)
  | tup r s => exact .tup r (s.wk fun _ _ => trivial)
  | dK r e s => exact .dK trivial r e (s.wk fun _ _ => trivial)
theorem Cn.wk {H : Hp} {L L' : AS} (l : ∀ a, L a → L' a) {v : V} {d : D} (h : Cn H L v d) : Cn H L' v d := by
  cases h with
  | non => exact .non
  | bl b => exact .bl b
  | int i => exact .int i
  | str x => exact .str x
  | lst r s => exact .lst r (s.wk l)
  | tup r s => exact .tup r (s.wk l)
  | dK r e s => exact .dK r e (s.wk l)
theorem sm_cn {H H' : Hp} {L : AS} (e : Same H H') {v : V} {d : D} (h : Cn H L v d) : Cn H' L v d := by
  cases h with
  | non => exact .non
  | bl b => exact .bl b
  | int i => exact .int i
  | str x => exact .str x
  | lst r s => exact .lst (sm_rd e r) (sm_dts e s)
  | tup r s => exact .tup (sm_rd e r) (sm_dts e s)
  | dK r e' s => exact .dK (e _ _ r) e' (sm_dvs e s)
theorem Cn.dp {K : PySem.W.Frag} {H : Hp} {L : AS} {v : V} {d : D} (h : Cn H L v d) (n : noD d = true) : Dp K H v d := Dt.dp d v n h.any

/-! nothing that changes is within -/
mutual
def imm : D → Bool
  | .list _ => false
  | .dict _ => false
  | .tuple ds => imms ds
  | _ => true
def imms : List D → Bool
  | [] => true
  | d :: ds => imm d && imms ds
end
mutual
theorem Dt.imm {H : Hp} {L L' : AS} : ∀ (d : D) (v : V), En.imm d = true → Dt H L v d → Dt H L' v d
  | .none, _, _, h => by cases h; exact .non
  | .bool _, _, _, h => by cases h; exact .bl _
  | .int _, _, _, h => by cases h; exact .int _
  | .str _, _, _, h => by cases h; exact .str _
  | .list ds, _, n, h => by simp [En.imm] at n
  | .tuple ds, _, n, h => by
    cases h with
    | tup r s => exact .tup r (Dts.imm ds _ (by simpa [En.imm] using n) s)
  | .dict es, _, n, h => by simp [En.imm] at n
theorem Dts.imm {H : Hp} {L L' : AS} : ∀ (ds : List D) (vs : List V), imms ds = true → Dts H L vs ds → Dts H L' vs ds
  | [], _, _, h => by cases h; exact .nil
  | d :: ds, _, n, h => by
    simp only [imms, Bool.and_eq_true] at n
    cases h with
    | cons h1 h2 => exact .cons (Dt.imm d _ n.1 h1) (Dts.imm ds _ n.2 h2)
end

/-! ### what an operation yields: a new list (nw), or data -/
def Zn (H : Hp) (L : AS) (H' : Hp) (z : V) (nw : Bool) (d : D) : Prop :=
  Same H H' ∧ (if nw = true then ∃ p xs ds, z = .ref p ∧ H p = none ∧ d = .list ds ∧ H' p = some (.lst xs) ∧ Dts H' (fun b => L b ∧ b ≠ p) xs ds else Dt H' L z d)
end En

set_option Elab.async false
set_option linter.all false
set_option maxRecDepth 100000
set_option maxHeartbeats 4000000
namespace En
open PySem PySem.Spec PyProof.Rows L2

/-! ### results, slots -/
inductive R (α : Type) where
  | bad
  | err (x : Str)
  | ok (a : α)
def R.bind {α β : Type} (r : R α) (f : α → R β) : R β := match r with
  | .bad => .bad
  | .err x => .err x
  | .ok a => f a
/-- data that stands still (m: may hold lists of old), a new list of one's own, one that is lent -/
inductive Rv where
  | fr (m : Bool) (d : D)
  | ow (m : Bool) (d : D)
  | bo (m : Bool) (d : D)
def Rv.d : Rv → D
  | .fr _ d => d
  | .ow _ d => d
  | .bo _ d => d
def Rv.m : Rv → Bool
  | .fr m _ => m
  | .ow m _ => m
  | .bo m _ => m
inductive Sl where
  | no
  | fr (m : Bool) (d : D)
  | ow (m : Bool) (d : D)
  | pt (v : V)
  | kn (v : V) (m : Bool) (d : D)

/-! ### the written program -/
inductive MG where
  | n (i : Nat)
  | t (l : List Nat)
mutual
inductive ME where
  | v (i : Nat)
  | kn
  | kb (b : Bool)
  | ki (i : Int)
  | ks (s : Str)
  | lst (es : MEs)
  | tup (es : MEs)
  | dK0
  | bin (op : Operator) (a b : ME)
  | neg (a : ME)
  | cmp (op : CmpOp) (a b : ME)
  | chn (op op2 : CmpOp) (a b c : ME)
  | bop (con : Bool) (es : MEs)
  | not_ (a : ME)
  | ite (c a b : ME)
  | ix (a i : ME)
  | sl (a : ME) (lo hi : MO)
  | bi (f : Str) (es : MEs)
  | isi (a : ME) (T : Str)
  | mt (o : ME) (f : Str) (es : MEs)
  | call (f : Str) (es : MEs)
  | lc (g : MG) (it : MI) (c : MO) (elt : ME)
  | lr (a b : MO)
  | rvl (a : ME)
  | rep (a : ME) (y z : Str)
  | srk (a : ME) (f : Str)
  | dgt (i : Nat) (k d : ME)
  | lix (a b : ME)
inductive MEs where
  | nil
  | cons (e : ME) (es : MEs)
inductive MO where
  | no
  | so (e : ME)
inductive MI where
  | e (a : ME)
  | r1 (a : ME)
  | r2 (a b : ME)
  | r3 (a b c : ME)
  | zip (a b : ME)
  | zip3 (a b c : ME)
  | enum (a : ME)
  | rev (a : ME)
end
mutual
inductive WT where
  | is (c : Str)
  | tup (cs : List Str)
  | or (ts : WTs)
  | not (t : WT)
inductive WTs where
  | one (t : WT)
  | cons (t : WT) (ts : WTs)
end
/-- what an except clause does: a text given to a slot, so where a test holds, what a def tells in words -/
inductive XSt where
  | set (i : Nat) (z : Str)
  | ifs (t : WT) (i : Nat) (z : Str)
  | word (i : Nat) (f : Str)
/-- what a try clause does: calls -/
inductive TB where
  | ex (f : Str) (es : MEs)
  | st (i : Nat) (own : Bool) (f : Str) (es : MEs)
  | if_ (c : ME) (a b : TB)
/-! statements; own: the new list is to be changed here -/
mutual
inductive MS where
  | skip
  | set (i : Nat) (e : ME) (own : Bool)
  | unp (l : List Nat) (e : ME)
  | par (i j : Nat) (a b : ME)
  | ret (e : ME)
  | retN
  | reto (i : Nat)
  | ife (c : ME) (a b : MSs)
  | for_ (g : MG) (it : MI) (b : MSs)
  | whl (c : ME) (b : MSs)
  | exp (e : ME)
  | app (i : Nat) (e : ME)
  | ext (i : Nat) (e : ME)
  | put (i : Nat) (k e : ME)
  | ins (i : Nat) (k e : ME)
  | popS (x i : Nat)
  | popI (x i : Nat) (k : ME)
  | raise_ (x m : Str)
  | mov (i j : Nat)
  | dput (i : Nat) (k e : ME)
  | try_ (b : TB) (tb : List (Str × List (Nat × Str))) (n : Nat) (sx : List XSt)
  | brk
  | cnt
  | never
inductive MSs where
  | nil
  | cons (s : MS) (r : MSs)
  | frz (i : Nat) (r : MSs)
end

/-! ### operations on data -/
def sc : D → Bool
  | .none => true
  | .bool _ => true
  | .int _ => true
  | .str _ => true
  | _ => false
def mk (m nw : Bool) (d : D) : Rv := if nw then .ow m d else .fr (m && !sc d) d
def scV : D → Option V
  | .none => some .non
  | .bool b => some (.bl b)
  | .int i => some (.int i)
  | .str x => some (.str x)
  | _ => none
def fits (n : Nat) : Bool := decide (n ≤ sizeLine)
def semBin (op : Operator) (d e : D) : Option (Bool × D) :=
  match op, d, e with
  | .Add, .int i, .int j => some (false, .int (i + j))
  | .Add, .str x, .str y => if fits (x.length + y.length) then some (false, .str (x ++ y)) else none
  | .Add, .list a, .list b => if fits (a.length + b.length) then some (true, .list (a ++ b)) else none
  | .Add, .tuple a, .tuple b => if fits (a.length + b.length) then some (false, .tuple (a ++ b)) else none
  | .Sub, .int i, .int j => some (false, .int (i - j))
  | .Mult, .int i, .int j => if (decide (-(2 ^ 64) < i) && decide (i < 2 ^ 64)) || (decide (-(2 ^ 64) < j) && decide (j < 2 ^ 64)) then some (false, .int (i * j)) else none
  | .Mult, .str x, .int k => if decide (-(2 ^ 63) ≤ k) && decide (k < 2 ^ 63) && fits (x.length * k.toNat) then some (false, .str ⟨((List.replicate k.toNat x.cps.toList).flatten).toArray⟩) else none
  | .Mult, .list xs, .int k => if decide (-(2 ^ 63) ≤ k) && decide (k < 2 ^ 63) && fits (xs.length * k.toNat) then some (true, .list (List.replicate k.toNat xs).flatten) else none
  | .FloorDiv, .int i, .int j => if decide (0 < j) && decide (j < 1073741824) then some (false, .int (i / j)) else none
  | .Mod, .int i, .int j => if decide (0 < j) then some (false, .int (i % j)) else none
  | .Pow, .int i, .int j => if decide (0 ≤ j) && decide (j ≤ 1000000) && decide (i.natAbs < 2 ^ 64) then some (false, .int (i ^ j.toNat)) else none
  | _, _, _ => none
def shp (d : D) : Bool := SeqAt.shaped d
def eqO (d e : D) : Option Bool :=
  match scV d, scV e with
  | some x, some y => if scal x y then some (decide (x = y)) else if shp d && shp e then some (PyData.eqv d e) else none
  | _, _ => if shp d && shp e then some (PyData.eqv d e) else none
/-- dicts with texts as keys -/
def isK (d : D) (k : Str) : Bool := match d with
  | .str y => decide (y = k)
  | _ => false
def hasS (es : List (D × D)) (k : Str) : Bool := (es.map (·.1)).any fun d => isK d k
def getS : List (D × D) → Str → Option D
  | [], _ => none
  | e :: es, k => if isK e.1 k then some e.2 else getS es k
def inO (x y : D) : Option Bool :=
  match y with
  | .dict es => match x with
    | .str k => some (hasS es k)
    | _ => none
  | .str z => match x with
    | .str w => match w.cps.toList with
      | [c] => some (decide (c ∈ z.cps.toList))
      | _ => none
    | _ => none
  | .list ds => if sc x && ds.all sc then some (ds.any fun z => PyData.eqv z x) else if shp x && shp (.list ds) then some (ds.any fun z => PyData.eqv z x) else none
  | .tuple ds => if sc x && ds.all sc then some (ds.any fun z => PyData.eqv z x) else none
  | _ => none
def semLix (d e : D) : Option Int := match d with
  | .list ds => if sc e && ds.all sc then (ds.findIdx? fun z => PyData.eqv z e).map fun j => (j : Int) else none
  | _ => none
def isO (x y : D) : Option Bool :=
  match y with
  | .none => some (match x with | .none => true | _ => false)
  | .bool b => match x with
    | .bool a => some (decide (a = b))
    | _ => none
  | _ => none
def semCmp (op : CmpOp) (d e : D) : Option Bool :=
  match op with
  | .Eq => eqO d e
  | .NotEq => (eqO d e).map (!·)
  | .Lt => match d, e with | .int i, .int j => some (decide (i < j)) | .str i, .str j => some (decide (i.cps.toList < j.cps.toList)) | _, _ => none
  | .LtE => match d, e with | .int i, .int j => some (decide (i ≤ j)) | _, _ => none
  | .Gt => match d, e with | .int i, .int j => some (decide (j < i)) | _, _ => none
  | .GtE => match d, e with | .int i, .int j => some (decide (j ≤ i)) | _, _ => none
  | .In => inO d e
  | .NotIn => (inO d e).map (!·)
  | .Is => isO d e
  | .IsNot => (isO d e).map (!·)
def semIx (d i : D) : Option D :=
  match d, i with
  | .list ds, .int k => atI ds k
  | .tuple ds, .int k => atI ds k
  | .str z, .int k => if fits z.length then (atI z.cps.toList k).map fun c => .str ⟨#[c]⟩ else none
  | _, _ => none
def cutL {α : Type} (xs : List α) (lo hi : Option Int) : List α := (xs.drop (HT.sIx xs.length 0 lo)).take (HT.sIx xs.length xs.length hi - HT.sIx xs.length 0 lo)
def semSl (d : D) (l h : Option Int) : Option (Bool × D) := match d with
  | .list ds => some (true, .list (cutL ds l h))
  | .tuple ds => some (false, .tuple (cutL ds l h))
  | .str z => if fits z.length then some (false, .str ⟨(cutL z.cps.toList l h).toArray⟩) else none
  | _ => none
def isInt : D → Option Int
  | .int i => some i
  | _ => none
def isStr : D → Option Str
  | .str x => some x
  | _ => none
def isBl : D → Option Bool
  | .bool x => some x
  | _ => none
def allO {α : Type} (f : D → Option α) : List D → Option (List α)
  | [] => some []
  | d :: ds => match f d, allO f ds with
    | some a, some r => some (a :: r)
    | _, _ => none
def maxL : List Int → Option Int
  | [] => none
  | x :: xs => some (xs.foldl (fun a b => if a < b then b else a) x)
def minL : List Int → Option Int
  | [] => none
  | x :: xs => some (xs.foldl (fun a b => if b < a then b else a) x)
def sortI (l : List Int) : List Int := l.mergeSort fun a b => decide (a ≤ b)
def digit (x : Str) : Option Int :=
  match x.cps.toList with
  | [c] => if 48 ≤ c ∧ c ≤ 57 then some ((c : Int) - 48) else none
  | _ => none
def s_len (ds : List D) : Option (Bool × D) := match ds with
  | [.list l] => some (false, .int l.length)
  | [.tuple l] => some (false, .int l.length)
  | [.str z] => if fits z.length then some (false, .int z.length) else none
  | _ => none
def s_list (ds : List D) : Option (Bool × D) := match ds with
  | [.list l] => some (true, .list l)
  | [.tuple l] => some (true, .list l)
  | [.str z] => if fits z.cps.toList.length then some (true, .list (z.cps.toList.map fun c => .str ⟨#[c]⟩)) else none
  | _ => none
def s_tuple (ds : List D) : Option (Bool × D) := match ds with
  | [.list l] => some (false, .tuple l)
  | [.tuple l] => some (false, .tuple l)
  | [.str z] => if fits z.cps.toList.length then some (false, .tuple (z.cps.toList.map fun c => .str ⟨#[c]⟩)) else none
  | _ => none
def s_sum (ds : List D) : Option (Bool × D) := match ds with
  | [.list l] => (allO isInt l).map fun ns => (false, .int ns.sum)
  | _ => none
def s_min (ds : List D) : Option (Bool × D) := match ds with
  | [.int i, .int j] => some (false, .int (if j < i then j else i))
  | [.list l] => (allO isInt l).bind fun ns => (minL ns).map fun m => (false, .int m)
  | _ => none
def s_max (ds : List D) : Option (Bool × D) := match ds with
  | [.int i, .int j] => some (false, .int (if j > i then j else i))
  | [.list l] => (allO isInt l).bind fun ns => (maxL ns).map fun m => (false, .int m)
  | _ => none
def s_int (ds : List D) : Option (Bool × D) := match ds with
  | [.int i] => some (false, .int i)
  | [.bool b] => some (false, .int (if b then 1 else 0))
  | [.str x] => (digit x).map fun i => (false, .int i)
  | _ => none
def s_any (ds : List D) : Option (Bool × D) := match ds with
  | [.list l] => (allO isBl l).map fun bs => (false, .bool (bs.any id))
  | _ => none
def s_all (ds : List D) : Option (Bool × D) := match ds with
  | [.list l] => (allO isBl l).map fun bs => (false, .bool (bs.all id))
  | _ => none
def s_sorted (ds : List D) : Option (Bool × D) := match ds with
  | [.list l] => (allO isInt l).bind fun ns => if ns.length < 64 then some (true, .list ((sortI ns).map .int)) else none
  | _ => none
def semBi (f : Str) (ds : List D) : Option (Bool × D) :=
  if f = "len" then s_len ds
  else if f = "list" then s_list ds
  else if f = "tuple" then s_tuple ds
  else if f = "sum" then s_sum ds
  else if f = "min" then s_min ds
  else if f = "max" then s_max ds
  else if f = "int" then s_int ds
  else if f = "any" then s_any ds
  else if f = "all" then s_all ds
  else if f = "sorted" then s_sorted ds
  else none
def semIsi (d : D) (T : Str) : Option Bool :=
  if T = "str" then some (match d with | .str _ => true | _ => false)
  else if T = "bool" then some (match d with | .bool _ => true | _ => false)
  else if T = "int" then some (match d with | .bool _ => true | .int _ => true | _ => false)
  else if T = "list" then some (match d with | .list _ => true | _ => false)
  else if T = "tuple" then some (match d with | .tuple _ => true | _ => false)
  else none
def m_join (o : D) (ds : List D) : Option (Bool × D) := match o, ds with
  | .str z, [.list l] => (allO isStr l).bind fun ys => if fits ((ys.map (·.length)).sum + ys.length * z.length) then some (false, .str ⟨(TL.joinL z.cps.toList (ys.map TL.tl)).toArray⟩) else none
  | _, _ => none
def m_startswith (o : D) (ds : List D) : Option (Bool × D) := match o, ds with
  | .str z, [.str y] => some (false, .bool (z.cps.toList.take y.length == y.cps.toList))
  | _, _ => none
def m_count (o : D) (ds : List D) : Option (Bool × D) := match o, ds with
  | .str z, [.str y] => some (false, .int (Txt.count z y))
  | _, _ => none
def semMt (o : D) (f : Str) (ds : List D) : Option (Bool × D) :=
  if f = "join" then m_join o ds
  else if f = "startswith" then m_startswith o ds
  else if f = "count" then m_count o ds
  else none

/-! ### the run -/
def lift (m : Bool) : Option (Bool × D) → R Rv
  | some (nw, d) => .ok (mk m nw d)
  | none => .bad
def liftB : Option Bool → R Rv
  | some b => .ok (.fr false (.bool b))
  | none => .bad
/-- what is put into another thing -/
def sto : Rv → R (Bool × D)
  | .fr m d => .ok (m && !imm d, d)
  | .ow m d => .ok (m && !imm d, d)
  | .bo _ _ => .bad
def anyM : List Rv → Bool
  | [] => false
  | r :: rs => r.m || anyM rs
def stos : List Rv → R (Bool × List D)
  | [] => .ok (false, [])
  | r :: rs => (sto r).bind fun p => (stos rs).bind fun q => .ok (p.1 || q.1, p.2 :: q.2)
def truth : Rv → R Bool
  | .fr _ (.bool b) => .ok b
  | _ => .bad
def isBo : Rv → Bool
  | .bo _ _ => true
  | _ => false
/-- a call's answer: what is lent to it isn't to be found in it -/
def ans (lent : Bool) : Rv → R Rv
  | .fr m d => if lent && m && !imm d then .bad else .ok (.fr (m && !imm d) d)
  | .ow m (.list ds) => if lent && m && !imms ds then .bad else .ok (.ow (m && !imms ds) (.list ds))
  | .ow m d => if lent && m then .bad else .ok (.ow m d)
  | .bo _ _ => .bad
def getSl (env : List Sl) (i : Nat) : R Rv :=
  match env[i]? with
  | some (.fr m d) => .ok (.fr m d)
  | some (.ow m d) => .ok (.bo m d)
  | some (.kn _ m d) => .ok (.fr m d)
  | _ => .bad
def setAll (m : Bool) : List Nat → List D → List Sl → R (List Sl)
  | [], [], env => .ok env
  | i :: is, d :: ds, env => if i < env.length then setAll m is ds (env.set i (.fr m d)) else .bad
  | _, _, _ => .bad
def bindG (g : MG) (m : Bool) (d : D) (env : List Sl) : R (List Sl) :=
  match g with
  | .n i => if i < env.length then .ok (env.set i (.fr m d)) else .bad
  | .t l => match d with
    | .tuple ds => setAll m l ds env
    | _ => .bad
/-- over items: what is told of each (none: left out) -/
def noErr {α : Type} : R α → R α
  | .ok a => .ok a
  | _ => .bad
def lcR (f : D → R (Option (Bool × D))) : List D → R (Bool × List D)
  | [] => .ok (false, [])
  | d :: ds => (f d).bind fun o => (lcR f ds).bind fun q => match o with
    | some p => .ok (p.1 || q.1, p.2 :: q.2)
    | none => .ok q
def rngD (a : Int) (n : Nat) : List D := (List.range n).map fun (i : Nat) => .int (a + (i : Int))
def rngC (a c : Int) (n : Nat) : List D := (List.range n).map fun (i : Nat) => .int (a + (i : Int) * c)
def sm (i : Int) : Bool := decide (-(2 ^ 62) ≤ i) && decide (i < 2 ^ 62)
def itemsOf : D → Option (List D)
  | .list ds => some ds
  | .tuple ds => some ds
  | .str z => some (z.cps.toList.map fun c => .str ⟨#[c]⟩)
  | _ => none
def enumD (k : Nat) : List D → List D
  | [] => []
  | d :: ds => .tuple [.int k, d] :: enumD (k + 1) ds
abbrev FT := Str → Option (Nat × (List D → R Rv))
/-- a key, an int -/
def keyR : R Rv → R Int
  | .ok (.fr _ (.int k)) => .ok k
  | _ => .bad
def keysR (g : List D → R Rv) : List D → R (List Int)
  | [] => .ok []
  | d :: ds => (keyR (g [d])).bind fun k => (keysR g ds).bind fun ks => .ok (k :: ks)
mutual
def evE (Γ : FT) (env : List Sl) : ME → R Rv
  | .v i => getSl env i
  | .kn => .ok (.fr false .none)
  | .kb b => .ok (.fr false (.bool b))
  | .ki i => .ok (.fr false (.int i))
  | .ks s => .ok (.fr false (.str s))
  | .lst es => (evEs Γ env es).bind fun rs => (stos rs).bind fun p => if fits p.2.length then .ok (.ow p.1 (.list p.2)) else .bad
  | .tup es => (evEs Γ env es).bind fun rs => (stos rs).bind fun p => if fits p.2.length then .ok (.fr p.1 (.tuple p.2)) else .bad
  | .dK0 => .ok (.ow false (.dict []))
  | .bin op a b => (evE Γ env a).bind fun x => (evE Γ env b).bind fun y => lift (x.m || y.m) (semBin op x.d y.d)
  | .neg a => (evE Γ env a).bind fun x => match x.d with
    | .int i => .ok (.fr false (.int (-i)))
    | _ => .bad
  | .cmp op a b => (evE Γ env a).bind fun x => (evE Γ env b).bind fun y => liftB (semCmp op x.d y.d)
  | .chn op op2 a b c => (evE Γ env a).bind fun x => (evE Γ env b).bind fun y => match semCmp op x.d y.d with
    | some true => (evE Γ env c).bind fun z => liftB (semCmp op2 y.d z.d)
    | some false => .ok (.fr false (.bool false))
    | none => .bad
  | .bop con es => (evB Γ env con es).bind fun b => .ok (.fr false (.bool b))
  | .not_ a => (evE Γ env a).bind fun x => (truth x).bind fun t => .ok (.fr false (.bool (!t)))
  | .ite c a b => (evE Γ env c).bind fun x => (truth x).bind fun t => if t then evE Γ env a else evE Γ env b
  | .ix a i => (evE Γ env a).bind fun x => (evE Γ env i).bind fun y => lift x.m ((semIx x.d y.d).map fun d => (false, d))
  | .sl a lo hi => (evE Γ env a).bind fun x => (evO Γ env lo).bind fun l => (evO Γ env hi).bind fun h => lift x.m (semSl x.d l h)
  | .bi f es => (evEs Γ env es).bind fun rs => lift (anyM rs) (semBi f (rs.map Rv.d))
  | .isi a T => (evE Γ env a).bind fun x => liftB (semIsi x.d T)
  | .mt o f es => (evE Γ env o).bind fun x => if (isStr x.d).isSome then (evEs Γ env es).bind fun rs => lift (x.m || anyM rs) (semMt x.d f (rs.map Rv.d)) else .bad
  | .call f es => match Γ f with
    | some (n, g) => (evEs Γ env es).bind fun rs => if rs.length = n then (g (rs.map Rv.d)).bind (ans (rs.any isBo)) else .bad
    | none => .bad
  | .lc g it c elt => (evI Γ env it).bind fun p => (lcR (fun d => noErr ((bindG g p.1 d env).bind fun env' => (evC Γ env' c).bind fun t => if t then ((evE Γ env' elt).bind sto).bind (fun q => .ok (some q)) else .ok none)) p.2).bind fun q =>
      if fits p.2.length then .ok (.ow q.1 (.list q.2)) else .bad
  | .lr a b => (evO Γ env a).bind fun x => (evO Γ env b).bind fun y => match x, y with
    | some n, none => if sm n && decide (n.toNat ≤ 2 ^ 24) then .ok (.ow false (.list (rngD 0 n.toNat))) else .bad
    | some i, some j => if sm i && sm j && decide ((j - i).toNat ≤ 2 ^ 24) then .ok (.ow false (.list (rngD i (j - i).toNat))) else .bad
    | _, _ => .bad
  | .rvl a => (evE Γ env a).bind fun x => match x.d with
    | .list ds => .ok (.ow x.m (.list ds.reverse))
    | _ => .bad
  | .rep a y z => (evE Γ env a).bind fun x => match x.d with
    | .str t => if t.length + (t.length + 1) * z.length ≤ 16777216 then .ok (.fr false (.str (Txt.replace t y z))) else .bad
    | _ => .bad
  | .dgt i k d => (getSl env i).bind fun x => match x.d with
    | .dict es => (evE Γ env k).bind fun y => (evE Γ env d).bind fun z => match y.d with
      | .str key => match getS es key with
        | some v => .ok (mk x.m false v)
        | none => if isBo z then .bad else .ok z
      | _ => .bad
    | _ => .bad
  | .lix a b => (evE Γ env a).bind fun x => match x.d with
    | .list ds => (evE Γ env b).bind fun y => match semLix (.list ds) y.d with
      | some j => .ok (.fr false (.int j))
      | none => .bad
    | _ => .bad
  | .srk a f => match Γ f with
    | some (n, g) => if n = 1 then (evE Γ env a).bind fun x => match x.d with
      | .list ds => (keysR g ds).bind fun ks => .ok (.ow x.m (.list ((srtK (ks.zip ds)).map (·.2))))
      | _ => .bad else .bad
    | none => .bad
def evEs (Γ : FT) (env : List Sl) : MEs → R (List Rv)
  | .nil => .ok []
  | .cons e es => (evE Γ env e).bind fun x => (evEs Γ env es).bind fun xs => .ok (x :: xs)
def evB (Γ : FT) (env : List Sl) (con : Bool) : MEs → R Bool
  | .nil => .bad
  | .cons e .nil => (evE Γ env e).bind truth
  | .cons e es => ((evE Γ env e).bind truth).bind fun t => if t = con then evB Γ env con es else .ok t
def evO (Γ : FT) (env : List Sl) : MO → R (Option Int)
  | .no => .ok none
  | .so e => (evE Γ env e).bind fun x => match x.d with
    | .int i => .ok (some i)
    | _ => .bad
def evC (Γ : FT) (env : List Sl) : MO → R Bool
  | .no => .ok true
  | .so e => (evE Γ env e).bind truth
def evI (Γ : FT) (env : List Sl) : MI → R (Bool × List D)
  | .e a => (evE Γ env a).bind fun x => if isBo x then .bad else match itemsOf x.d with
    | some ds => .ok (x.m, ds)
    | none => .bad
  | .r1 a => (evE Γ env a).bind fun x => match x.d with
    | .int n => if sm n then .ok (false, rngD 0 n.toNat) else .bad
    | _ => .bad
  | .r2 a b => (evE Γ env a).bind fun x => (evE Γ env b).bind fun y => match x.d, y.d with
    | .int i, .int j => if sm i && sm j then .ok (false, rngD i (j - i).toNat) else .bad
    | _, _ => .bad
  | .r3 a b c => (evE Γ env a).bind fun x => (evE Γ env b).bind fun y => (evE Γ env c).bind fun z => match x.d, y.d, z.d with
    | .int i, .int j, .int k => if sm i && sm j && decide (k = -1) then .ok (false, rngC i (-1) (i - j).toNat) else .bad
    | _, _, _ => .bad
  | .zip a b => (evE Γ env a).bind fun x => (evE Γ env b).bind fun y => if isBo x || isBo y then .bad else match itemsOf x.d, itemsOf y.d with
    | some ds, some es => .ok (x.m || y.m, List.zipWith (fun d e => .tuple [d, e]) ds es)
    | _, _ => .bad
  | .zip3 a b c => (evE Γ env a).bind fun x => (evE Γ env b).bind fun y => (evE Γ env c).bind fun z => if isBo x || isBo y || isBo z then .bad else match itemsOf x.d, itemsOf y.d, itemsOf z.d with
    | some ds, some es, some fs => .ok (x.m || y.m || z.m, List.zipWith (fun d p => match p with | (e, f) => .tuple [d, e, f]) ds (es.zip fs))
    | _, _, _ => .bad
  | .enum a => (evE Γ env a).bind fun x => if isBo x then .bad else match x.d with
    | .list ds => .ok (x.m, enumD 0 ds)
    | .str z => .ok (x.m, enumD 0 (z.cps.toList.map fun c => .str ⟨#[c]⟩))
    | _ => .bad
  | .rev a => (evE Γ env a).bind fun x => if isBo x then .bad else match x.d with
    | .list ds => .ok (x.m, ds.reverse)
    | _ => .bad
end

inductive Fl where
  | bad
  | err (x : Str)
  | next (env : List Sl)
  | ret (r : Rv)
  | brk (env : List Sl)
  | cnt (env : List Sl)
def Fl.of {α : Type} (r : R α) (f : α → Fl) : Fl := match r with
  | .bad => .bad
  | .err x => .err x
  | .ok a => f a
def Fl.then (a : Fl) (f : List Sl → Fl) : Fl := match a with
  | .next env => f env
  | a => a
def setSl (env : List Sl) (i : Nat) (s : Sl) : Fl := if i < env.length then .next (env.set i s) else .bad
def put1 (own : Bool) (i : Nat) (env : List Sl) : Rv → Fl
  | .fr m d => if own then .bad else setSl env i (.fr m d)
  | .ow m d => if own then setSl env i (.ow m d) else setSl env i (.fr m d)
  | .bo _ _ => .bad
/-- a loop over items -/
def forR (f : D → List Sl → Fl) : List D → List Sl → Fl
  | [], env => .next env
  | d :: ds, env => match f d env with
    | .next e => forR f ds e
    | .cnt e => forR f ds e
    | .brk e => .next e
    | a => a
def whlR (c : List Sl → R Bool) (f : List Sl → Fl) : Nat → List Sl → Fl
  | 0, _ => .bad
  | n + 1, env => .of (c env) fun t => if t then match f env with
    | .next e => whlR c f n e
    | .cnt e => whlR c f n e
    | .brk e => .next e
    | a => a else .next env
/-- texts given to slots -/
def setZ : List (Nat × Str) → List Sl → List Sl
  | [], env => env
  | p :: l, env => setZ l (env.set p.1 (.fr false (.str p.2)))
def callR (Γ : FT) (env : List Sl) (f : Str) (es : MEs) : R Rv := match Γ f with
  | some (n, g) => (noErr (evEs Γ env es)).bind fun rs => if rs.length = n then (g (rs.map Rv.d)).bind (ans (rs.any isBo)) else .bad
  | none => .bad
def evT (Γ : FT) : TB → List Sl → Fl
  | .ex f es, env => .of (callR Γ env f es) fun _ => .next env
  | .st i own f es, env => .of (callR Γ env f es) (put1 own i env)
  | .if_ c a b, env => .of (noErr ((evE Γ env c).bind truth)) fun t => if t then evT Γ a env else evT Γ b env
def tryR (tb : List (Str × List (Nat × Str))) (n : Nat) (env : List Sl) (f : Fl) : Fl := match f with
  | .next e => .next e
  | .err x => match tb.lookup x with
    | some l => if n < env.length then .next ((setZ l (env.set n .no)).set n .no) else .bad
    | none => .bad
  | _ => .bad
mutual
def evS (Γ : FT) (fuel : Nat) : MS → List Sl → Fl
  | .skip, env => .next env
  | .set i e own, env => .of (evE Γ env e) (put1 own i env)
  | .unp l e, env => .of (evE Γ env e) fun x => if isBo x then .bad else match x.d with
    | .tuple ds => .of (setAll x.m l ds env) .next
    | .list ds => .of (setAll x.m l ds env) .next
    | _ => .bad
  | .par i j a b, env => .of (evEs Γ env (.cons a (.cons b .nil))) fun rs => .of (stos rs) fun p => .of (setAll p.1 [i, j] p.2 env) .next
  | .ret e, env => .of (evE Γ env e) fun x => if isBo x then .bad else .ret x
  | .retN, _ => .ret (.fr false .none)
  | .reto i, env => match env[i]? with
    | some (.ow m d) => .ret (.ow m d)
    | _ => .bad
  | .ife c a b, env => .of ((evE Γ env c).bind truth) fun t => if t then evSs Γ fuel a env else evSs Γ fuel b env
  | .for_ g it b, env => .of (evI Γ env it) fun p => forR (fun d e => .of (bindG g p.1 d e) fun e' => evSs Γ fuel b e') p.2 env
  | .whl c b, env => whlR (fun e => (evE Γ e c).bind truth) (fun e => evSs Γ fuel b e) fuel env
  | .exp e, env => .of (evE Γ env e) fun _ => .next env
  | .app i e, env => match env[i]? with
    | some (.ow m (.list ds)) => .of (evE Γ env e) fun x => .of (sto x) fun p => if decide (ds.length < sizeLine) then .next (env.set i (.ow (m || p.1) (.list (ds ++ [p.2])))) else .bad
    | _ => .bad
  | .ext i e, env => match env[i]? with
    | some (.ow m (.list ds)) => .of (evE Γ env e) fun x => match x.d with
      | .list es => if fits (ds.length + es.length) then .next (env.set i (.ow (m || x.m) (.list (ds ++ es)))) else .bad
      | _ => .bad
    | _ => .bad
  | .put i k e, env => .of (evE Γ env e) fun x => .of (sto x) fun p => match env[i]? with
    | some (.ow m (.list ds)) => .of (evE Γ env k) fun y => match y.d with
      | .int n => match ixN ds.length n with
        | some j => .next (env.set i (.ow (m || p.1) (.list (ds.set j p.2))))
        | none => .bad
      | _ => .bad
    | _ => .bad
  | .dput i k e, env => .of (evE Γ env e) fun x => .of (sto x) fun p => match env[i]? with
    | some (.ow m (.dict es)) => .of (evE Γ env k) fun y => match y.d with
      | .str key => if !hasS es key && decide (es.length < sizeLine) then .next (env.set i (.ow (m || p.1) (.dict (es ++ [(.str key, p.2)])))) else .bad
      | _ => .bad
    | _ => .bad
  | .ins i k e, env => match env[i]? with
    | some (.ow m (.list ds)) => .of (evE Γ env k) fun y => match y.d with
      | .int n => .of (evE Γ env e) fun x => .of (sto x) fun p => if decide (ds.length < sizeLine) && decide (0 ≤ n) && decide (n < 2 ^ 63) then .next (env.set i (.ow (m || p.1) (.list (ds.take n.toNat ++ [p.2] ++ ds.drop n.toNat)))) else .bad
      | _ => .bad
    | _ => .bad
  | .popS x i, env => match env[i]? with
    | some (.ow m (.list ds)) => match ds[ds.length - 1]? with
      | some d => if i = x then .bad else setSl (env.set i (.ow m (.list ds.dropLast))) x (.fr m d)
      | none => .bad
    | _ => .bad
  | .popI x i k, env => match env[i]? with
    | some (.ow m (.list ds)) => .of (evE Γ env k) fun y => match y.d with
      | .int n => if sm n then match ixN ds.length n with
        | some j => match ds[j]? with
          | some d => if i = x then .bad else setSl (env.set i (.ow m (.list (ds.eraseIdx j)))) x (.fr m d)
          | none => .bad
        | none => .bad else .bad
      | _ => .bad
    | _ => .bad
  | .raise_ x _, _ => .err x
  | .mov i j, env => match env[j]? with
    | some (.ow m d) => if i < env.length ∧ i ≠ j then .next ((env.set i (.ow m d)).set j .no) else .bad
    | _ => .bad
  | .try_ b tb n _, env => tryR tb n env (evT Γ b env)
  | .brk, env => .brk env
  | .cnt, env => .cnt env
  | .never, _ => .bad
def evSs (Γ : FT) (fuel : Nat) : MSs → List Sl → Fl
  | .nil, env => .next env
  | .cons s r, env => (evS Γ fuel s env).then fun e => evSs Γ fuel r e
  | .frz i r, env => match env[i]? with
    | some (.ow m d) => evSs Γ fuel r (env.set i (.fr m d))
    | _ => .bad
end
/-- a def: how many slots, its body -/
structure MF where
  slots : Nat
  body : MSs
def startE (n : Nat) (ds : List D) : List Sl := ds.map (fun d => .fr (!imm d) d) ++ List.replicate (n - ds.length) .no
def runF (Γ : FT) (fuel : Nat) (f : MF) (ds : List D) : R Rv :=
  match evSs Γ fuel f.body (startE f.slots ds) with
  | .bad => .bad
  | .err x => .err x
  | .next _ => .ok (.fr false .none)
  | .ret r => .ok r
  | .brk _ => .bad
  | .cnt _ => .bad
end En

set_option Elab.async false
set_option linter.all false
set_option maxRecDepth 100000
set_option maxHeartbeats 4000000
namespace En
open PySem PySem.Spec PyProof.Rows L2

theorem zn_dt {H : Hp} {L : AS} {z : V} {d : D} (h : Dt H L z d) : Zn H L H z false d := ⟨Same.refl _, by simpa using h⟩
theorem zn_new {H : Hp} {L : AS} {p : Addr} {xs : List V} {ds : List D} (hp : H p = none) (h : Dts H L xs ds) : Zn H L (upd H p (.lst xs)) (.ref p) true (.list ds) :=
  ⟨same_new hp, by rw [if_pos rfl]; exact ⟨p, xs, ds, rfl, hp, rfl, upd_same, dts_new hp h⟩⟩
theorem zn_tup {H : Hp} {L : AS} {p : Addr} {xs : List V} {ds : List D} (hp : H p = none) (h : Dts H L xs ds) : Zn H L (upd H p (.tup xs)) (.ref p) false (.tuple ds) :=
  ⟨same_new hp, by rw [if_neg (by simp)]; exact .tup (.inl upd_same) (sm_dts (same_new hp) h)⟩
theorem Dts.flat {H : Hp} {L : AS} {xs : List V} {ds : List D} (h : Dts H L xs ds) : ∀ k : Nat, Dts H L (List.replicate k xs).flatten (List.replicate k ds).flatten
  | 0 => by simpa using Dts.nil
  | k + 1 => by
    rw [List.replicate_succ, List.replicate_succ, List.flatten_cons, List.flatten_cons]
    exact h.append (h.flat k)
theorem fits_le {n : Nat} (h : fits n = true) : n ≤ sizeLine := of_decide_eq_true h
theorem Cn.isc {H : Hp} {L : AS} {x : V} {d : D} {v : V} (h : Cn H L x d) (e : scV d = some v) : x = v := by
  cases h <;> simp [scV] at e <;> exact e
theorem Cn.dt_sc {H : Hp} {L L' : AS} {x : V} {d : D} (h : Cn H L x d) (e : sc d = true) : Dt H L' x d := by
  cases h <;> simp [sc] at e
  · exact .non
  · exact .bl _
  · exact .int _
  · exact .str _

section
variable {X : Cx} {pins : List (Addr × Obj)} {σ : L2.St} {H : Hp} {s : Shared}
theorem lstR {l : Addr} {xs : List V} (I : Inv X pins σ H s) (hH : Rd H l (.lst xs)) : xs.length ≤ sizeLine ∧ ∃ (its : List Value) (n : Nat), Vals xs its ∧ xs.length = its.length ∧ s.heap.get? l = some { cls := .type "list", data := .seq its.toArray n } := by
  obtain ⟨z, its, n, r, e⟩ := hH.ok I.hok
  exact ⟨z, its, n, r, r.length, e⟩
end
section
variable {X : Cx}
def rCatR : R2 := fun x y H Q => ∃ l b xs zs, x = .ref l ∧ y = .ref b ∧ Rd H l (.lst xs) ∧ Rd H b (.lst zs) ∧ xs.length + zs.length ≤ sizeLine ∧ ∀ p, H p = none → Q (.ref p) (upd H p (.lst (xs ++ zs)))
theorem op_catR : OpR X (binaryOp .Add) rCatR := by
  intro pins s σ H x y v u Q I rx ry h
  obtain ⟨l, b, xs, zs, rfl, rfl, hH, hB, hz, q⟩ := h
  cases rx
  cases ry
  obtain ⟨z, its, n, r, hl, e⟩ := lstR I hH
  obtain ⟨z2, its2, n2, r2, hl2, e2⟩ := lstR I hB
  refine PySem.P.add_list e e2 ?_ (by rw [List.size_toArray, List.size_toArray]; omega)
  have ea : its.toArray ++ its2.toArray = (its ++ its2).toArray := by simp
  rw [ea]
  exact ⟨.ref _, _, I.lnew (t' := s.toks) (r.append r2) (by rw [List.length_append]; omega), rfl, q _ I.fresh⟩
def rRepR : R2 := fun x y H Q => ∃ l k xs, x = .ref l ∧ y = .int k ∧ Rd H l (.lst xs) ∧ -(2 ^ 63) ≤ k ∧ k < 2 ^ 63 ∧ xs.length * k.toNat ≤ sizeLine ∧
  ∀ p, H p = none → Q (.ref p) (upd H p (.lst (List.replicate k.toNat xs).flatten))
theorem op_repR : OpR X (binaryOp .Mult) rRepR := by
  intro pins s σ H x y v u Q I rx ry h
  obtain ⟨l, k, xs, rfl, rfl, hH, h1, h2, hz, q⟩ := h
  cases rx
  obtain ⟨t, rfl⟩ := ry
  obtain ⟨z, its, n, r, hl, e⟩ := lstR I hH
  have hlen : its.toArray.size * k.toNat ≤ sizeLine := by rw [List.size_toArray, ← hl]; exact hz
  have hcap : ¬ its.toArray.size * k.toNat > (2 ^ 63 - 1) / 8 := by
    have : (sizeLine : Nat) ≤ (2 ^ 63 - 1) / 8 := by decide
    omega
  have hfit : ¬ (!Builtin.List.listFitsIndex k) = true := by
    rw [fitsIndex_both h1 h2]
    exact Bool.false_ne_true
  have hlong : ¬ Builtin.List.listTooLong (its.toArray.size * k.toNat) = true := by
    rw [notLongL hlen]
    exact Bool.false_ne_true
  have hnew : List.foldl (fun x1 x2 => x1 ++ x2) #[] (List.replicate (if its.toArray.isEmpty = true then 0 else k.toNat) its.toArray) = (List.replicate k.toNat its).flatten.toArray := by
    have f0 : ∀ m : Nat, List.foldl (fun x1 x2 => x1 ++ x2) #[] (List.replicate m its.toArray) = (List.replicate m its).flatten.toArray := fun m => by
      have := foldl_rep its m []
      rw [List.nil_append] at this
      exact this
    rw [f0]
    cases its with
    | nil => simp
    | cons a r' => rw [if_neg (by simp)]
  refine wpAny_binaryOp_repeat_ref (T := "list") (U := "int") (by decide) ⟨_, e, rfl⟩ (fun s' => typeIs_int s' k t) noFill_list_mul F.fills_int_mul F.slot_int_rmul repeat_list F.slot_int_index.lookup
    (call_meets F.slot_int_rmul (typeIs_int s k t) F.entry_int_rmul (F.args_int_rmul_2 _ _) (int___rmul___int_list k t l its.toArray n)
      ⟨e, rfl, ⟨_, e, rfl⟩, call_meets F.slot_list_mul ⟨_, e, rfl⟩ F.entry_list_mul (F.args_list_mul_2 _ _) (AutoListH.list___mul___list_int_3 l its.toArray n k t hfit hcap hlong) ⟨e, ?_⟩⟩)
  rw [hnew]
  exact ⟨.ref _, _, I.lnew (t' := s.toks) (r.rep k.toNat) (by rw [PyProof.Rows.lm_len_rep_flat, Nat.mul_comm]; exact hz), rfl, q _ I.fresh⟩
theorem foldl_arr {α : Type} (a : Array α) : ∀ (k : Nat) (acc : Array α), (List.foldl (· ++ ·) acc (List.replicate k a)).toList = acc.toList ++ (List.replicate k a.toList).flatten
  | 0, acc => by simp
  | k + 1, acc => by
    rw [List.replicate_succ, List.foldl_cons, foldl_arr a k, List.replicate_succ, List.flatten_cons, Array.toList_append, List.append_assoc]
def rMulS : R2 := fun x y H Q => ∃ z k, x = .str z ∧ y = .int k ∧ -(2 ^ 63) ≤ k ∧ k < 2 ^ 63 ∧ z.length * k.toNat ≤ sizeLine ∧ Q (.str ⟨((List.replicate k.toNat z.cps.toList).flatten).toArray⟩) H
theorem op_mulS : OpR X (binaryOp .Mult) rMulS := by
  intro pins s σ H x y v u Q I rx ry h
  obtain ⟨z, k, rfl, rfl, h1, h2, hz, q⟩ := h
  obtain ⟨t, rfl⟩ := rx
  obtain ⟨t', rfl⟩ := ry
  have e : (sizeLine : Nat) = 16777216 := sizeLine_eq
  refine PySem.P.mul_str ?_ (fun a b => ?_) (fun a b => ?_) ?_
  · have a1 : ¬ k < -(2 ^ 63) := by omega
    have a2 : ¬ k ≥ 2 ^ 63 := by omega
    rw [decide_eq_false a1, decide_eq_false a2]
    rfl
  · have hk : 0 < k := by omega
    have hn : ((k.toNat : Nat) : Int) = k := Int.toNat_of_nonneg (by omega)
    have hm : (z.length : Int) * k ≤ 16777216 := by
      rw [← hn]
      have : ((z.length * k.toNat : Nat) : Int) ≤ (16777216 : Nat) := by
        rw [← e]
        exact Int.ofNat_le.mpr hz
      simpa using this
    intro hc
    have h3 : ((2 ^ 63 - 1 : Int) / k + 1) * k > 2 ^ 63 - 1 := by
      have := Int.lt_ediv_add_one_mul_self (2 ^ 63 - 1) hk
      exact this
    have h4 : ((2 ^ 63 - 1 : Int) / k + 1) * k ≤ (z.length : Int) * k := Int.mul_le_mul_of_nonneg_right (by omega) (by omega)
    omega
  · unfold PySem.Builtin.Str.tooLong
    rw [e] at hz
    first
      | exact decide_eq_false (by omega)
      | (simp; omega)
  · by_cases hk : k < 1
    · rw [if_pos hk]
      have e0 : k.toNat = 0 := by omega
      rw [e0] at q
      refine ⟨by decide, .str _, H, I.tok _, ⟨_, rfl⟩, ?_⟩
      exact q
    · rw [if_neg hk]
      by_cases hc : (k == 1 || z.length == 0) = true
      · rw [if_pos hc]
        have ez : (⟨((List.replicate k.toNat z.cps.toList).flatten).toArray⟩ : Str) = z := by
          simp only [Bool.or_eq_true, beq_iff_eq] at hc
          rcases hc with hc | hc
          · subst hc
            simp
          · have : z.cps.toList = [] := by
              have h0 : z.cps.size = 0 := hc
              simpa using h0
            rw [this]
            have hzz : z = ⟨#[]⟩ := by
              cases z with
              | mk c =>
                have : c = #[] := by simpa using this
                rw [this]
            rw [hzz]
            simp
        rw [ez] at q
        exact ⟨.str _, H, I, ⟨_, rfl⟩, q⟩
      · rw [if_neg hc]
        have ez : (⟨((List.replicate k.toNat z.cps.toList).flatten).toArray⟩ : Str) = ⟨(List.replicate k.toNat z.cps).foldl (· ++ ·) #[]⟩ := by
          congr 1
          apply Array.toList_inj.mp
          rw [foldl_arr]
          simp
        rw [ez] at q
        refine ⟨?_, .str _, H, I.tok _, ⟨_, rfl⟩, q⟩
        show _ ≤ _
        have : (⟨(List.replicate k.toNat z.cps).foldl (· ++ ·) #[]⟩ : Str).length = z.length * k.toNat := by
          rw [← ez]
          show ((List.replicate k.toNat z.cps.toList).flatten).toArray.size = _
          simp [Str.length, Nat.mul_comm]
        rw [this]
        omega

/-- a binary operator on data -/
def rB (f : D → D → Option (Bool × D)) : R2 := fun x y H Q => ∃ L d e nw z, Cn H L x d ∧ Cn H L y e ∧ f d e = some (nw, z) ∧ ∀ v H', Zn H L H' v nw z → Q v H'
theorem bin_ok (op : Operator) : OpR X (binaryOp op) (rB (semBin op)) := by
  intro pins s σ H x y v u Q I rx ry h
  obtain ⟨L, d, e, nw, z, cx, cy, hf, q⟩ := h
  cases op with
  | Add =>
    cases cx <;> cases cy <;> simp only [semBin, reduceCtorEq] at hf
    · cases hf
      exact op_add pins s σ H _ _ _ _ _ I rx ry ⟨_, _, rfl, rfl, q _ _ (zn_dt (.int _))⟩
    · split at hf
      · rename_i hz
        cases hf
        exact op_add_str pins s σ H _ _ _ _ _ I rx ry ⟨_, _, rfl, rfl, fits_le hz, q _ _ (zn_dt (.str _))⟩
      · exact nomatch hf
    · rename_i r1 s1 _ _ _ r2 s2
      split at hf
      · rename_i hz
        cases hf
        exact op_catR pins s σ H _ _ _ _ _ I rx ry ⟨_, _, _, _, rfl, rfl, r1, r2, by rw [s1.length, s2.length]; exact fits_le hz, fun p hp => q _ _ (zn_new hp (s1.append s2))⟩
      · exact nomatch hf
    · rename_i r1 s1 _ _ _ r2 s2
      split at hf
      · rename_i hz
        cases hf
        refine op_catA pins s σ H _ _ _ _ _ I rx ry ⟨_, _, _, _, rfl, rfl, .inl r1, .inl r2, by rw [s1.length, s2.length]; exact fits_le hz, fun e0 => ?_, fun _ e0 => ?_, fun _ _ p hp => q _ _ (zn_tup hp (s1.append s2))⟩
        · subst e0
          cases s1
          exact q _ _ (zn_dt (.tup r2 s2))
        · subst e0
          cases s2
          rw [List.append_nil] at q
          exact q _ _ (zn_dt (.tup r1 s1))
      · exact nomatch hf
  | Sub =>
    cases cx <;> cases cy <;> simp only [semBin, reduceCtorEq] at hf
    cases hf
    exact op_sub pins s σ H _ _ _ _ _ I rx ry ⟨_, _, rfl, rfl, q _ _ (zn_dt (.int _))⟩
  | Mult =>
    cases cx <;> cases cy <;> simp only [semBin, reduceCtorEq] at hf
    · split at hf
      · rename_i hz
        cases hf
        simp only [Bool.or_eq_true, Bool.and_eq_true, decide_eq_true_eq] at hz
        exact op_mul pins s σ H _ _ _ _ _ I rx ry ⟨_, _, rfl, rfl, hz, q _ _ (zn_dt (.int _))⟩
      · exact nomatch hf
    · split at hf
      · rename_i hz
        cases hf
        simp only [Bool.and_eq_true, decide_eq_true_eq] at hz
        exact op_mulS pins s σ H _ _ _ _ _ I rx ry ⟨_, _, rfl, rfl, hz.1.1, hz.1.2, fits_le hz.2, q _ _ (zn_dt (.str _))⟩
      · exact nomatch hf
    · rename_i r1 s1 _
      split at hf
      · rename_i hz
        cases hf
        simp only [Bool.and_eq_true, decide_eq_true_eq] at hz
        exact op_repR pins s σ H _ _ _ _ _ I rx ry ⟨_, _, _, rfl, rfl, r1, hz.1.1, hz.1.2, by rw [s1.length]; exact fits_le hz.2, fun p hp => q _ _ (zn_new hp (s1.flat _))⟩
      · exact nomatch hf
  | FloorDiv =>
    cases cx <;> cases cy <;> simp only [semBin, reduceCtorEq] at hf
    split at hf
    · rename_i hz
      cases hf
      simp only [Bool.and_eq_true, decide_eq_true_eq] at hz
      exact op_fdiv pins s σ H _ _ _ _ _ I rx ry ⟨_, _, rfl, rfl, hz, q _ _ (zn_dt (.int _))⟩
    · exact nomatch hf
  | Mod =>
    cases cx <;> cases cy <;> simp only [semBin, reduceCtorEq] at hf
    split at hf
    · rename_i hz
      cases hf
      simp only [decide_eq_true_eq] at hz
      exact op_mod pins s σ H _ _ _ _ _ I rx ry ⟨_, _, rfl, rfl, hz, q _ _ (zn_dt (.int _))⟩
    · exact nomatch hf
  | Pow =>
    cases cx <;> cases cy <;> simp only [semBin, reduceCtorEq] at hf
    split at hf
    · rename_i hz
      cases hf
      simp only [Bool.and_eq_true, decide_eq_true_eq] at hz
      exact op_pow pins s σ H _ _ _ _ _ I rx ry ⟨_, _, rfl, rfl, ⟨hz.1.1, hz.1.2, hz.2⟩, q _ _ (zn_dt (.int _))⟩
    · exact nomatch hf
  | _ => simp [semBin] at hf

/-! ### comparisons -/
def rC (f : D → D → Option Bool) : R2 := fun x y H Q => ∃ L d e b, Cn H L x d ∧ Cn H L y e ∧ f d e = some b ∧ Q (.bl b) H
theorem eqO_cases {d e : D} {b : Bool} (h : eqO d e = some b) : (∃ x y, scV d = some x ∧ scV e = some y ∧ scal x y = true ∧ b = decide (x = y)) ∨ (shp d = true ∧ shp e = true ∧ b = PyData.eqv d e) := by
  unfold eqO at h
  split at h
  · rename_i x y e1 e2
    split at h
    · rename_i hs
      cases h
      exact .inl ⟨x, y, e1, e2, hs, rfl⟩
    · split at h
      · rename_i hz
        cases h
        simp only [Bool.and_eq_true] at hz
        exact .inr ⟨hz.1, hz.2, rfl⟩
      · exact nomatch h
  · split at h
    · rename_i hz
      cases h
      simp only [Bool.and_eq_true] at hz
      exact .inr ⟨hz.1, hz.2, rfl⟩
    · exact nomatch h
theorem noD_shp {d : D} (h : shp d = true) : noD d = true := by
  unfold shp SeqAt.shaped at h
  simp only [Bool.and_eq_true] at h
  exact noD_of d h.1
theorem eq_ok (hu : X.A.units + 65 < cLine) : OpR X (compareOp .Eq) (rC eqO) := by
  intro pins s σ H x y v u Q I rx ry h
  obtain ⟨L, d, e, b, cx, cy, hf, q⟩ := h
  rcases eqO_cases hf with ⟨x', y', e1, e2, hs, rfl⟩ | ⟨s1, s2, rfl⟩
  · have := cx.isc e1
    subst this
    have := cy.isc e2
    subst this
    exact op_eq pins s σ H _ _ _ _ _ I rx ry ⟨hs, q⟩
  · exact op_eqD (by omega) pins s σ H _ _ _ _ _ I rx ry ⟨d, e, cx.dp (noD_shp s1), cy.dp (noD_shp s2), s1, s2, q⟩
theorem ne_ok (hu : X.A.units + 65 < cLine) : OpR X (compareOp .NotEq) (rC fun d e => (eqO d e).map (!·)) := by
  intro pins s σ H x y v u Q I rx ry h
  obtain ⟨L, d, e, b, cx, cy, hf, q⟩ := h
  have hf : (eqO d e).map (!·) = some b := hf
  cases h0 : eqO d e with
  | none => rw [h0] at hf; simp at hf
  | some b' =>
  rw [h0] at hf
  simp only [Option.map_some, Option.some.injEq] at hf
  subst hf
  rcases eqO_cases h0 with ⟨x', y', e1, e2, hs, rfl⟩ | ⟨s1, s2, rfl⟩
  · have := cx.isc e1
    subst this
    have := cy.isc e2
    subst this
    exact op_ne pins s σ H _ _ _ _ _ I rx ry ⟨hs, q⟩
  · exact op_neD (by omega) pins s σ H _ _ _ _ _ I rx ry ⟨d, e, cx.dp (noD_shp s1), cy.dp (noD_shp s2), s1, s2, q⟩
theorem flat_sc {H : Hp} {L : AS} {x : V} {d : D} (h : Dt H L x d) (e : sc d = true) : flatV x = true := by
  cases h <;> simp [sc] at e <;> rfl
theorem flats_sc {H : Hp} {L : AS} : ∀ {xs : List V} {ds : List D}, Dts H L xs ds → ds.all sc = true → xs.all flatV = true
  | [], _, h, _ => rfl
  | x :: xs, _, h, e => by
    cases h with
    | cons a b =>
      simp only [List.all_cons, Bool.and_eq_true] at e ⊢
      exact ⟨flat_sc a e.1, flats_sc b e.2⟩
theorem eqV_sc {H : Hp} {L L' : AS} {x y : V} {d e : D} (h : Dt H L x d) (k : Dt H L' y e) (e1 : sc d = true) (e2 : sc e = true) : eqV x y = PyData.eqv d e := by
  cases h <;> simp [sc] at e1 <;> cases k <;> simp [sc] at e2 <;> simp [eqV, PyData.eqv] <;> (try rfl)
theorem inV_sc {H : Hp} {L L' : AS} {x : V} {d : D} (h : Dt H L' x d) (e1 : sc d = true) : ∀ {xs : List V} {ds : List D}, Dts H L xs ds → ds.all sc = true → inV x xs = ds.any fun z => PyData.eqv z d
  | [], _, k, _ => by cases k; rfl
  | y :: ys, _, k, e => by
    cases k with
    | cons a b =>
      simp only [List.all_cons, Bool.and_eq_true] at e
      have ih := inV_sc h e1 b e.2
      unfold inV at ih ⊢
      rw [List.any_cons, List.any_cons, eqV_sc a h e.1 e1, ih]
end
end En

set_option Elab.async false
set_option linter.all false
set_option maxRecDepth 100000
set_option maxHeartbeats 4000000
namespace En
open PySem PySem.Spec PyProof.Rows L2
section
variable {X : Cx}
theorem toList_one {w : Str} {c : Nat} (h : w.cps.toList = [c]) : w = ⟨#[c]⟩ := by
  cases w with
  | mk a =>
    have h' : a.toList = [c] := h
    have : a = #[c] := Array.toList_inj.mp (by simpa using h')
    rw [this]
theorem inD_dp {H : Hp} {L : AS} {a : Addr} {xs : List V} {ds : List D} (r : Rd H a (.lst xs)) (s : Dts H L xs ds) (n : shp (.list ds) = true) : Dp X.K H (.ref a) (.list ds) :=
  Cn.dp (Cn.lst r s) (noD_shp n)
theorem key_is (k : Key) (z : Str) : isK (keyD k) z = decide (k = .inr z) := by
  cases k with
  | inl i => simp [keyD, isK]
  | inr y => simp [keyD, isK]
theorem has_val {kvs : List (Key × V)} {es : List (D × D)} (hk : es.map (·.1) = kvs.map (fun kv => keyD kv.1)) (z : Str) : hasS es z = (valV kvs (.inr z)).isSome := by
  unfold hasS
  rw [hk, List.any_map, ← valV_any]
  congr 1
  funext kv
  exact key_is kv.1 z
theorem get_val {H : Hp} {L : AS} (z : Str) : ∀ {kvs : List (Key × V)} {es : List (D × D)}, es.map (·.1) = kvs.map (fun kv => keyD kv.1) → Dvs H L (kvs.map (·.2)) es →
    (match getS es z with | some d => ∃ v, valV kvs (.inr z) = some v ∧ Dt H L v d | none => valV kvs (.inr z) = none)
  | [], [], _, _ => rfl
  | [], _ :: _, h, _ => by simp at h
  | _ :: _, [], h, _ => by simp at h
  | kv :: kvs, e :: es, h, hv => by
    simp only [List.map_cons, List.cons.injEq] at h
    cases hv with
    | cons t tl =>
      unfold getS
      rw [h.1, key_is]
      by_cases hc : kv.1 = .inr z
      · simp only [hc, decide_true, if_true]
        exact ⟨kv.2, valV_pos hc, t⟩
      · simp only [hc, decide_false, Bool.false_eq_true, if_false]
        rw [valV_neg hc]
        exact get_val z h.2 tl
theorem in_ok (hu : X.A.units + 65 < cLine) : OpR X (compareOp .In) (rC inO) := by
  intro pins s σ H x y v u Q I rx ry h
  obtain ⟨L, d, e, b, cx, cy, hf, q⟩ := h
  cases cy <;> simp only [inO, reduceCtorEq] at hf
  · cases cx <;> simp only [reduceCtorEq] at hf
    split at hf
    · rename_i z _ w c hw
      cases hf
      have := toList_one hw
      subst this
      exact op_in_sign pins s σ H _ _ _ _ _ I rx ry ⟨_, _, rfl, rfl, q⟩
    · exact nomatch hf
  · rename_i a xs ds r1 s1
    split at hf
    · rename_i hz
      cases hf
      simp only [Bool.and_eq_true] at hz
      have dx : Dt H L x d := cx.dt_sc hz.1
      have e1 := inV_sc dx hz.1 s1 hz.2
      refine op_in_seq pins s σ H _ _ _ _ _ I rx ry ⟨_, _, rfl, .inl (.inl r1), flat_sc dx hz.1, flats_sc s1 hz.2, ?_⟩
      rw [if_neg (by simp), e1]
      exact q
    · split at hf
      · rename_i hz
        cases hf
        simp only [Bool.and_eq_true] at hz
        exact op_inD hu pins s σ H _ _ _ _ _ I rx ry ⟨d, ds, cx.dp (noD_shp hz.1), inD_dp r1 s1 hz.2, hz.1, hz.2, q⟩
      · exact nomatch hf
  · rename_i a xs ds r1 s1
    split at hf
    · rename_i hz
      cases hf
      simp only [Bool.and_eq_true] at hz
      have dx : Dt H L x d := cx.dt_sc hz.1
      have e1 := inV_sc dx hz.1 s1 hz.2
      refine op_in_seq pins s σ H _ _ _ _ _ I rx ry ⟨_, _, rfl, .inr (.inl r1), flat_sc dx hz.1, flats_sc s1 hz.2, ?_⟩
      rw [if_neg (by simp), e1]
      exact q
    · exact nomatch hf
  · rename_i a kvs es r1 hk hv
    cases cx <;> simp only [reduceCtorEq] at hf
    rename_i z
    cases hf
    cases ry
    exact d_in (by omega) I (DGet.k (k := .inr z) r1) rx fun s' I' => ⟨.bl _, H, I', rfl, by rw [← has_val hk]; exact q⟩
theorem notIn_ok (hu : X.A.units + 65 < cLine) : OpR X (compareOp .NotIn) (rC fun d e => (inO d e).map (!·)) := by
  intro pins s σ H x y v u Q I rx ry h
  obtain ⟨L, d, e, b, cx, cy, hf', q⟩ := h
  have hf' : (inO d e).map (!·) = some b := hf'
  cases hf : inO d e with
  | none => rw [hf] at hf'; simp at hf'
  | some b' =>
  rw [hf] at hf'
  simp only [Option.map_some, Option.some.injEq] at hf'
  subst hf'
  cases cy <;> simp only [inO, reduceCtorEq] at hf
  · cases cx <;> simp only [reduceCtorEq] at hf
    split at hf
    · rename_i z _ w c hw
      cases hf
      have := toList_one hw
      subst this
      exact op_notIn_sign pins s σ H _ _ _ _ _ I rx ry ⟨_, _, rfl, rfl, q⟩
    · exact nomatch hf
  · rename_i a xs ds r1 s1
    split at hf
    · rename_i hz
      cases hf
      simp only [Bool.and_eq_true] at hz
      have dx : Dt H L x d := cx.dt_sc hz.1
      have e1 := inV_sc dx hz.1 s1 hz.2
      refine op_notIn_seq pins s σ H _ _ _ _ _ I rx ry ⟨_, _, rfl, .inl (.inl r1), flat_sc dx hz.1, flats_sc s1 hz.2, ?_⟩
      rw [if_pos rfl, e1]
      exact q
    · split at hf
      · rename_i hz
        cases hf
        simp only [Bool.and_eq_true] at hz
        exact op_notInD hu pins s σ H _ _ _ _ _ I rx ry ⟨d, ds, cx.dp (noD_shp hz.1), inD_dp r1 s1 hz.2, hz.1, hz.2, q⟩
      · exact nomatch hf
  · rename_i a xs ds r1 s1
    split at hf
    · rename_i hz
      cases hf
      simp only [Bool.and_eq_true] at hz
      have dx : Dt H L x d := cx.dt_sc hz.1
      have e1 := inV_sc dx hz.1 s1 hz.2
      refine op_notIn_seq pins s σ H _ _ _ _ _ I rx ry ⟨_, _, rfl, .inr (.inl r1), flat_sc dx hz.1, flats_sc s1 hz.2, ?_⟩
      rw [if_pos rfl, e1]
      exact q
    · exact nomatch hf
  · rename_i a kvs es r1 hk hv
    cases cx <;> simp only [reduceCtorEq] at hf
    rename_i z
    cases hf
    cases ry
    exact d_notIn (by omega) I (DGet.k (k := .inr z) r1) rx fun s' I' => ⟨.bl _, H, I', rfl, by rw [← has_val hk]; exact q⟩
theorem is_ok : OpR X (compareOp .Is) (rC isO) := by
  intro pins s σ H x y v u Q I rx ry h
  obtain ⟨L, d, e, b, cx, cy, hf, q⟩ := h
  cases cy <;> simp only [isO, reduceCtorEq] at hf
  · cases hf
    refine op_isN pins s σ H _ _ _ _ _ I rx ry ⟨rfl, ?_⟩
    cases cx <;> exact q
  · cases cx <;> simp only [reduceCtorEq] at hf
    cases hf
    exact op_isBl pins s σ H _ _ _ _ _ I rx ry ⟨_, _, rfl, rfl, q⟩
theorem isNot_ok : OpR X (compareOp .IsNot) (rC fun d e => (isO d e).map (!·)) := by
  intro pins s σ H x y v u Q I rx ry h
  obtain ⟨L, d, e, b, cx, cy, hf, q⟩ := h
  have hf : (isO d e).map (!·) = some b := hf
  cases cy <;> simp only [isO, reduceCtorEq, Option.map_none, Option.map_some] at hf
  · cases hf
    refine op_notN pins s σ H _ _ _ _ _ I rx ry ⟨rfl, ?_⟩
    cases cx <;> exact q
  · cases cx <;> simp only [reduceCtorEq, Option.map_none, Option.map_some] at hf
    cases hf
    exact op_notBl pins s σ H _ _ _ _ _ I rx ry ⟨_, _, rfl, rfl, q⟩
theorem cmp_ok (hu : X.A.units + 65 < cLine) (op : CmpOp) : OpR X (compareOp op) (rC (semCmp op)) := by
  cases op with
  | Eq => exact eq_ok hu
  | NotEq => exact ne_ok hu
  | In => exact in_ok hu
  | NotIn => exact notIn_ok hu
  | Is => exact is_ok
  | IsNot => exact isNot_ok
  | Lt =>
    intro pins s σ H x y v u Q I rx ry h
    obtain ⟨L, d, e, b, cx, cy, hf, q⟩ := h
    cases cx <;> cases cy <;> simp only [semCmp, reduceCtorEq] at hf
    · cases hf
      exact op_lt pins s σ H _ _ _ _ _ I rx ry ⟨_, _, rfl, rfl, q⟩
    · cases hf
      exact op_lt_str pins s σ H _ _ _ _ _ I rx ry ⟨_, _, rfl, rfl, q⟩
  | LtE =>
    intro pins s σ H x y v u Q I rx ry h
    obtain ⟨L, d, e, b, cx, cy, hf, q⟩ := h
    cases cx <;> cases cy <;> simp only [semCmp, reduceCtorEq] at hf
    cases hf
    exact op_le pins s σ H _ _ _ _ _ I rx ry ⟨_, _, rfl, rfl, q⟩
  | Gt =>
    intro pins s σ H x y v u Q I rx ry h
    obtain ⟨L, d, e, b, cx, cy, hf, q⟩ := h
    cases cx <;> cases cy <;> simp only [semCmp, reduceCtorEq] at hf
    cases hf
    exact op_gt pins s σ H _ _ _ _ _ I rx ry ⟨_, _, rfl, rfl, q⟩
  | GtE =>
    intro pins s σ H x y v u Q I rx ry h
    obtain ⟨L, d, e, b, cx, cy, hf, q⟩ := h
    cases cx <;> cases cy <;> simp only [semCmp, reduceCtorEq] at hf
    cases hf
    exact op_ge pins s σ H _ _ _ _ _ I rx ry ⟨_, _, rfl, rfl, q⟩

/-! ### items, cuts -/
theorem atI_dts {H : Hp} {L : AS} {xs : List V} {ds : List D} {k : Int} {z : D} (s : Dts H L xs ds) (h : atI ds k = some z) : ∃ v, atI xs k = some v ∧ Dt H L v z := by
  unfold atI at h ⊢
  rw [s.length]
  cases e : ixN ds.length k with
  | none => rw [e] at h; exact nomatch h
  | some j =>
    rw [e] at h
    exact s.get h
def rI1 (f : D → D → Option D) : R2 := fun x y H Q => ∃ L d e z, Cn H L x d ∧ Cn H L y e ∧ f d e = some z ∧ ∀ v, Dt H L v z → Q v H
theorem ix_ok : IxR X (rI1 semIx) := by
  intro val sli pins s σ H x y v u Q I rx ry h hs
  obtain ⟨L, d, e, z, cx, cy, hf, q⟩ := h
  cases cx <;> cases cy <;> simp only [semIx, reduceCtorEq] at hf
  · split at hf
    · rename_i hz
      rename_i zz k
      cases ha : atI zz.cps.toList k with
      | none => rw [ha] at hf; simp at hf
      | some c =>
        rw [ha] at hf
        simp only [Option.map_some, Option.some.injEq] at hf
        subst hf
        exact ix_str val sli pins s σ H _ _ _ _ _ I rx ry ⟨_, _, _, rfl, rfl, fits_le hz, ha, q _ (.str _)⟩ hs
    · exact nomatch hf
  · rename_i r1 s1 k
    obtain ⟨v', e1, dv⟩ := atI_dts s1 hf
    exact ix_list val sli pins s σ H _ _ _ _ _ I rx ry ⟨_, _, _, _, rfl, rfl, .inl r1, e1, q _ dv⟩ hs
  · rename_i r1 s1 k
    obtain ⟨v', e1, dv⟩ := atI_dts s1 hf
    exact ix_tup val sli pins s σ H _ _ _ _ _ I rx ry ⟨_, _, _, _, rfl, rfl, .inl r1, e1, q _ dv⟩ hs
theorem cut_dts {H : Hp} {L : AS} {xs : List V} {ds : List D} (s : Dts H L xs ds) (lo hi : Option Int) : Dts H L (cutV xs lo hi) (cutL ds lo hi) := by
  unfold cutV cutL
  rw [s.length]
  exact (s.drop _).take _
def rSl2 : V → Option Int → Option Int → Hp → VK → Prop := fun x lo hi H Q => ∃ L d nw z, Cn H L x d ∧ semSl d lo hi = some (nw, z) ∧ ∀ v H', Zn H L H' v nw z → Q v H'
theorem cutL_whole {α : Type} {xs : List α} {lo hi : Option Int} (h : HT.sIx xs.length 0 lo = 0 ∧ HT.sIx xs.length xs.length hi = xs.length) : cutL xs lo hi = xs := by
  unfold cutL
  rw [h.1, h.2]
  simp
theorem sl_ok : SlR X rSl2 := by
  intro pins s σ H x v vl vu lo hi sl Q I rx hsl p1 p2 h
  obtain ⟨L, d, nw, z, cx, hf, q⟩ := h
  cases cx <;> simp only [semSl, reduceCtorEq] at hf
  · split at hf
    · rename_i zz hz
      cases hf
      refine sl_str pins s σ H _ v vl vu lo hi sl Q I rx hsl p1 p2 ⟨zz, rfl, fits_le hz, ?_⟩
      have e : cutS zz lo hi = ⟨(cutL zz.cps.toList lo hi).toArray⟩ := rfl
      rw [e]
      exact q _ _ (zn_dt (.str _))
    · exact nomatch hf
  · rename_i r1 s1
    cases hf
    exact sl_list pins s σ H _ v vl vu lo hi sl Q I rx hsl p1 p2 ⟨_, _, rfl, .inl r1, fun p hp => q _ _ (zn_new hp (cut_dts s1 lo hi))⟩
  · rename_i r1 s1
    cases hf
    refine sl_tupA pins s σ H _ v vl vu lo hi sl Q I rx hsl p1 p2 ⟨_, _, rfl, .inl r1, fun hw => ?_, fun _ p hp => q _ _ (zn_tup hp (cut_dts s1 lo hi))⟩
    rw [s1.length] at hw
    have e := cutL_whole hw
    rw [e] at q
    exact q _ _ (zn_dt (.tup r1 s1))

/-! ### built-in functions -/
inductive Cns (H : Hp) (L : AS) : List V → List D → Prop
  | nil : Cns H L [] []
  | cons {v : V} {vs : List V} {d : D} {ds : List D} : Cn H L v d → Cns H L vs ds → Cns H L (v :: vs) (d :: ds)
theorem ints_of {H : Hp} {L : AS} : ∀ {xs : List V} {ds : List D} {ns : List Int}, Dts H L xs ds → allO isInt ds = some ns → xs = ns.map V.int
  | _, [], _, h, e => by cases h; simp [allO] at e; subst e; rfl
  | _, d :: ds, _, h, e => by
    cases h with
    | cons a b =>
      cases a <;> simp only [allO, isInt, reduceCtorEq] at e
      cases e2 : allO isInt ds with
      | none => rw [e2] at e; exact nomatch e
      | some r =>
        rw [e2] at e
        cases e
        rw [ints_of b e2]
        rfl
theorem strs_of {H : Hp} {L : AS} : ∀ {xs : List V} {ds : List D} {ns : List Str}, Dts H L xs ds → allO isStr ds = some ns → xs = ns.map V.str
  | _, [], _, h, e => by cases h; simp [allO] at e; subst e; rfl
  | _, d :: ds, _, h, e => by
    cases h with
    | cons a b =>
      cases a <;> simp only [allO, isStr, reduceCtorEq] at e
      cases e2 : allO isStr ds with
      | none => rw [e2] at e; exact nomatch e
      | some r =>
        rw [e2] at e
        cases e
        rw [strs_of b e2]
        rfl
theorem bls_of {H : Hp} {L : AS} : ∀ {xs : List V} {ds : List D} {ns : List Bool}, Dts H L xs ds → allO isBl ds = some ns → xs = ns.map V.bl
  | _, [], _, h, e => by cases h; simp [allO] at e; subst e; rfl
  | _, d :: ds, _, h, e => by
    cases h with
    | cons a b =>
      cases a <;> simp only [allO, isBl, reduceCtorEq] at e
      cases e2 : allO isBl ds with
      | none => rw [e2] at e; exact nomatch e
      | some r =>
        rw [e2] at e
        cases e
        rw [bls_of b e2]
        rfl
theorem ints_dts {H : Hp} {L : AS} : ∀ ns : List Int, Dts H L (ns.map V.int) (ns.map PyData.int)
  | [] => .nil
  | _ :: ns => .cons (.int _) (ints_dts ns)
theorem minF : ∀ (xs : List Int) (x : Int), (xs.foldl (fun a b => if b < a then b else a) x ∈ x :: xs) ∧ ∀ y ∈ x :: xs, xs.foldl (fun a b => if b < a then b else a) x ≤ y
  | [], x => by simp
  | z :: xs, x => by
    obtain ⟨h1, h2⟩ := minF xs (if z < x then z else x)
    rw [List.foldl_cons]
    generalize hm : xs.foldl (fun a b => if b < a then b else a) (if z < x then z else x) = m at h1 h2
    have h3 := h2 _ (List.mem_cons_self)
    refine ⟨?_, fun y hy => ?_⟩
    · rcases List.mem_cons.mp h1 with h | h
      · rw [h]
        split <;> simp
      · simp [h]
    · rcases List.mem_cons.mp hy with h | h
      · subst h
        split at h3 <;> omega
      · rcases List.mem_cons.mp h with h | h
        · subst h
          split at h3 <;> omega
        · exact h2 y (List.mem_cons_of_mem _ h)
theorem maxF : ∀ (xs : List Int) (x : Int), (xs.foldl (fun a b => if a < b then b else a) x ∈ x :: xs) ∧ ∀ y ∈ x :: xs, y ≤ xs.foldl (fun a b => if a < b then b else a) x
  | [], x => by simp
  | z :: xs, x => by
    obtain ⟨h1, h2⟩ := maxF xs (if x < z then z else x)
    rw [List.foldl_cons]
    generalize hm : xs.foldl (fun a b => if a < b then b else a) (if x < z then z else x) = m at h1 h2
    have h3 := h2 _ (List.mem_cons_self)
    refine ⟨?_, fun y hy => ?_⟩
    · rcases List.mem_cons.mp h1 with h | h
      · rw [h]
        split <;> simp
      · simp [h]
    · rcases List.mem_cons.mp hy with h | h
      · subst h
        split at h3 <;> omega
      · rcases List.mem_cons.mp h with h | h
        · subst h
          split at h3 <;> omega
        · exact h2 y (List.mem_cons_of_mem _ h)
theorem sortI_uniq {ns ns' : List Int} (p : ns'.Perm ns) (w : ns'.Pairwise (· ≤ ·)) : ns' = sortI ns := by
  have p2 : (sortI ns).Perm ns := List.mergeSort_perm _ _
  have w2 : (sortI ns).Pairwise (· ≤ ·) := by
    have := List.pairwise_mergeSort (le := fun a b : Int => decide (a ≤ b)) (fun a b c => by simp; omega) (fun a b => by simp; omega) ns
    exact this.imp fun h => by simpa using h
  exact (p.trans p2.symm).eq_of_pairwise (fun a b _ _ h1 h2 => by omega) w w2
def rBi (f : Str) : List V → Hp → VK → Prop := fun vs H Q => ∃ L ds nw z, Cns H L vs ds ∧ semBi f ds = some (nw, z) ∧ ∀ v H', Zn H L H' v nw z → Q v H'
/-- what stands behind a built-in name -/
def biV (f : Str) : Option Value :=
  if f = "len" then some (.builtin "len") else if f = "list" then some (.type "list") else if f = "tuple" then some (.type "tuple") else if f = "sum" then some (.builtin "sum")
  else if f = "min" then some (.builtin "min") else if f = "max" then some (.builtin "max") else if f = "int" then some (.type "int") else if f = "any" then some (.builtin "any")
  else if f = "all" then some (.builtin "all") else if f = "sorted" then some (.builtin "sorted") else none
theorem digit_text {x : Str} {i : Int} (h : digit x = some i) : PySem.intText? x = some i ∧ x.length ≤ 640 := by
  unfold digit at h
  split at h
  · rename_i c hc
    split at h
    · rename_i hr
      cases h
      have := toList_one hc
      subst this
      refine ⟨?_, by show 1 ≤ 640; omega⟩
      obtain ⟨h1, h2⟩ := hr
      have : c = 48 ∨ c = 49 ∨ c = 50 ∨ c = 51 ∨ c = 52 ∨ c = 53 ∨ c = 54 ∨ c = 55 ∨ c = 56 ∨ c = 57 := by omega
      rcases this with h | h | h | h | h | h | h | h | h | h <;> subst h <;> decide +kernel
    · exact nomatch h
  · exact nomatch h
theorem bi_len : CallR X (.builtin "len") (rBi "len") := by
  intro pins s σ H vs us Q I rv h
  obtain ⟨L, ds, nw, z, cs, hf, q⟩ := h
  have hf : s_len ds = some (nw, z) := hf
  revert cs
  unfold s_len at hf
  split at hf
  · intro cs
    cases cs with | cons c cs => cases cs with | nil => cases c with
    | lst r s1 =>
      cases hf
      have := q (.int _) H (zn_dt (.int _))
      rw [← s1.length] at this
      exact call_len_seq pins s σ H _ us Q I rv ⟨_, _, rfl, .inl (.inl r), this⟩
  · intro cs
    cases cs with | cons c cs => cases cs with | nil => cases c with
    | tup r s1 =>
      cases hf
      have := q (.int _) H (zn_dt (.int _))
      rw [← s1.length] at this
      exact call_len_seq pins s σ H _ us Q I rv ⟨_, _, rfl, .inr (.inl r), this⟩
  · rename_i x _
    intro cs
    cases cs with | cons c cs => cases cs with | nil => cases c with
    | str =>
      split at hf
      · rename_i hz
        cases hf
        exact call_len_str pins s σ H _ us Q I rv ⟨_, rfl, fits_le hz, q _ _ (zn_dt (.int _))⟩
      · exact nomatch hf
  · exact nomatch hf
theorem signs_vals {x : Str} {acc : Array Value} (h : ItemsOf (SignAt x) acc x.cps.size) : Vals (x.cps.toList.map fun c => V.str ⟨#[c]⟩) acc.toList := by
  have hl : acc.toList.length = x.cps.toList.length := by rw [Array.length_toList, h.1, Array.length_toList]
  have key : ∀ (us : List Value) (cs : List Nat), us.length = cs.length → (∀ (j : Nat) (u : Value) (c : Nat), us[j]? = some u → cs[j]? = some c → RelV (V.str ⟨#[c]⟩) u) → Vals (cs.map fun c => V.str ⟨#[c]⟩) us := by
    intro us
    induction us with
    | nil => intro cs hl _; cases cs with | nil => exact .nil | cons _ _ => cases hl
    | cons u us ih =>
      intro cs hl hr
      cases cs with
      | nil => cases hl
      | cons c cs => exact .cons (hr 0 u c rfl rfl) (ih cs (by simpa using hl) fun j u c h1 h2 => hr (j + 1) u c (by simpa using h1) (by simpa using h2))
  refine key _ _ hl fun j u c h1 h2 => ?_
  obtain ⟨c', t, e1, e2⟩ := h.2 j u (by rw [← Array.getElem?_toList]; exact h1)
  rw [← Array.getElem?_toList, h2] at e1
  cases e1
  exact ⟨t, e2⟩
theorem signs_dts {H : Hp} {L : AS} : ∀ cs : List Nat, Dts H L (cs.map fun c => V.str ⟨#[c]⟩) (cs.map fun c => PyData.str ⟨#[c]⟩)
  | [] => .nil
  | c :: cs => .cons (.str _) (signs_dts cs)
theorem bi_list (hc : X.calm = true) : CallR X (.type "list") (rBi "list") := by
  intro pins s σ H vs us Q I rv h
  obtain ⟨L, ds, nw, z, cs, hf, q⟩ := h
  have hf : s_list ds = some (nw, z) := hf
  revert cs
  unfold s_list at hf
  split at hf
  · intro cs
    cases cs with | cons c cs => cases cs with | nil => cases c with
    | lst r s1 =>
      cases hf
      exact call_list_of pins s σ H _ us Q I rv ⟨_, _, rfl, .inl (.inl r), fun p hp => q _ _ (zn_new hp s1)⟩
  · intro cs
    cases cs with | cons c cs => cases cs with | nil => cases c with
    | tup r s1 =>
      cases hf
      exact call_list_of pins s σ H _ us Q I rv ⟨_, _, rfl, .inr (.inl r), fun p hp => q _ _ (zn_new hp s1)⟩
  · rename_i x _
    intro cs
    cases cs with | cons c cs => cases cs with | nil => cases c with
    | str =>
      split at hf
      · rename_i hz
        cases hf
        have hz : x.cps.toList.length ≤ sizeLine := of_decide_eq_true hz
        cases rv with | cons rx rr => cases rr with | nil =>
        obtain ⟨t, e⟩ := rx
        subst e
        refine call_list_str (I.ok.hd hc) x t (fun h' tk acc c' hk hS hi => ?_) (by rw [← Array.length_toList]; exact hz)
        refine ⟨.ref s.heap.objs.size, upd H s.heap.objs.size (.lst (x.cps.toList.map fun c => V.str ⟨#[c]⟩)), I.laid hk (Nat.le_refl _) (show ObjOk X.prog X.w _ _ _ (.lst _) from ⟨?_, acc.toList, c', signs_vals hi, ?_⟩), rfl, q _ _ (zn_new (I.hok.fresh (Nat.le_refl _)) (signs_dts _))⟩
        · rw [List.length_map]; exact hz
        · rw [Array.toArray_toList]; exact hS
      · cases hf
  · exact nomatch hf
theorem bi_tuple (hc : X.calm = true) : CallR X (.type "tuple") (rBi "tuple") := by
  intro pins s σ H vs us Q I rv h
  obtain ⟨L, ds, nw, z, cs, hf, q⟩ := h
  have hf : s_tuple ds = some (nw, z) := hf
  revert cs
  unfold s_tuple at hf
  split at hf
  · intro cs
    cases cs with | cons c cs => cases cs with | nil => cases c with
    | lst r s1 =>
      cases hf
      exact call_tuple_of pins s σ H _ us Q I rv ⟨_, _, rfl, .inl ⟨.inl r, fun p hp => q _ _ (zn_tup hp s1)⟩⟩
  · intro cs
    cases cs with | cons c cs => cases cs with | nil => cases c with
    | tup r s1 =>
      cases hf
      exact call_tuple_of pins s σ H _ us Q I rv ⟨_, _, rfl, .inr ⟨.inl r, q _ _ (zn_dt (.tup r s1))⟩⟩
  · rename_i x _
    intro cs
    cases cs with | cons c cs => cases cs with | nil => cases c with
    | str =>
      split at hf
      · rename_i hz
        cases hf
        have hz : x.cps.toList.length ≤ sizeLine := of_decide_eq_true hz
        cases rv with | cons rx rr => cases rr with | nil =>
        obtain ⟨t, e⟩ := rx
        subst e
        refine call_tuple_str (I.ok.hd hc) x t (fun h' tk acc hk hi => ?_) (by rw [← Array.length_toList]; exact hz)
        have I2 : Inv X pins σ H { s with heap := h', toks := tk } := I.kept hk
        refine ⟨.ref h'.objs.size, upd H h'.objs.size (.tup (x.cps.toList.map fun c => V.str ⟨#[c]⟩)), I2.laid (t' := tk) (fun c o e => Heap.get?_push_of_some _ e) (Nat.le_refl _) (show ObjOk X.prog X.w _ _ _ (.tup _) from ⟨?_, acc.toList, signs_vals hi, ?_⟩), rfl, q _ _ (zn_tup (I2.hok.fresh (Nat.le_refl _)) (signs_dts _))⟩
        · rw [List.length_map]; exact hz
        · rw [Array.toArray_toList]; exact IsTup.new _ _
      · cases hf
  · exact nomatch hf
theorem bi_sum (hc : X.calm = true) : CallR X (.builtin "sum") (rBi "sum") := by
  intro pins s σ H vs us Q I rv h
  obtain ⟨L, ds, nw, z, cs, hf, q⟩ := h
  have hf : s_sum ds = some (nw, z) := hf
  revert cs
  unfold s_sum at hf
  split at hf
  · rename_i l _
    intro cs
    cases cs with | cons c cs => cases cs with | nil => cases c with
    | lst r s1 =>
      cases e : allO isInt l with
      | none => rw [e] at hf; exact nomatch hf
      | some ns =>
        rw [e] at hf
        cases hf
        have := ints_of s1 e
        subst this
        exact cr_sum hc pins s σ H _ us Q I rv ⟨_, _, rfl, .inl r, q _ _ (zn_dt (.int _))⟩
  · exact nomatch hf
theorem bi_min (hc : X.calm = true) : CallR X (.builtin "min") (rBi "min") := by
  intro pins s σ H vs us Q I rv h
  obtain ⟨L, ds, nw, z, cs, hf, q⟩ := h
  have hf : s_min ds = some (nw, z) := hf
  revert cs
  unfold s_min at hf
  split at hf
  · intro cs
    cases cs with | cons c cs => cases cs with | cons c' cs => cases cs with | nil => cases c with | int i => cases c' with
    | int j =>
      cases hf
      exact call_min2 hc pins s σ H _ us Q I rv ⟨_, _, rfl, q _ _ (zn_dt (.int _))⟩
  · rename_i l _
    intro cs
    cases cs with | cons c cs => cases cs with | nil => cases c with
    | lst r s1 =>
      cases e : allO isInt l with
      | none => rw [e] at hf; exact nomatch hf
      | some ns =>
        rw [e] at hf
        have := ints_of s1 e
        subst this
        cases ns with
        | nil => exact nomatch hf
        | cons n ns =>
          cases hf
          obtain ⟨m1, m2⟩ := minF ns n
          refine cr_min hc pins s σ H _ us Q I rv ⟨_, n :: ns, rfl, .inl r, by simp, fun m hm hy => ?_⟩
          have e1 := hy _ m1
          have e2 := m2 m hm
          have e3 : m = ns.foldl (fun a b => if b < a then b else a) n := by omega
          rw [e3]
          exact q _ _ (zn_dt (.int _))
  · exact nomatch hf
theorem bi_max (hc : X.calm = true) : CallR X (.builtin "max") (rBi "max") := by
  intro pins s σ H vs us Q I rv h
  obtain ⟨L, ds, nw, z, cs, hf, q⟩ := h
  have hf : s_max ds = some (nw, z) := hf
  revert cs
  unfold s_max at hf
  split at hf
  · intro cs
    cases cs with | cons c cs => cases cs with | cons c' cs => cases cs with | nil => cases c with | int i => cases c' with
    | int j =>
      cases hf
      exact call_max2 hc pins s σ H _ us Q I rv ⟨_, _, rfl, q _ _ (zn_dt (.int _))⟩
  · rename_i l _
    intro cs
    cases cs with | cons c cs => cases cs with | nil => cases c with
    | lst r s1 =>
      cases e : allO isInt l with
      | none => rw [e] at hf; exact nomatch hf
      | some ns =>
        rw [e] at hf
        have := ints_of s1 e
        subst this
        cases ns with
        | nil => exact nomatch hf
        | cons n ns =>
          cases hf
          obtain ⟨m1, m2⟩ := maxF ns n
          refine cr_max hc pins s σ H _ us Q I rv ⟨_, n :: ns, rfl, .inl r, by simp, fun m hm hy => ?_⟩
          have e1 := hy _ m1
          have e2 := m2 m hm
          have e3 : m = ns.foldl (fun a b => if a < b then b else a) n := by omega
          rw [e3]
          exact q _ _ (zn_dt (.int _))
  · exact nomatch hf
theorem bi_int : CallR X (.type "int") (rBi "int") := by
  intro pins s σ H vs us Q I rv h
  obtain ⟨L, ds, nw, z, cs, hf, q⟩ := h
  have hf : s_int ds = some (nw, z) := hf
  revert cs
  unfold s_int at hf
  split at hf
  · intro cs
    cases cs with | cons c cs => cases cs with | nil => cases c with
    | int i =>
      cases hf
      exact call_int1 pins s σ H _ us Q I rv (.inl ⟨_, rfl, q _ _ (zn_dt (.int _))⟩)
  · intro cs
    cases cs with | cons c cs => cases cs with | nil => cases c with
    | bl b =>
      cases hf
      exact call_int1 pins s σ H _ us Q I rv (.inr ⟨_, rfl, q _ _ (zn_dt (.int _))⟩)
  · rename_i x _
    intro cs
    cases cs with | cons c cs => cases cs with | nil => cases c with
    | str _ =>
      cases e : digit x with
      | none => rw [e] at hf; exact nomatch hf
      | some i =>
        rw [e] at hf
        cases hf
        exact call_int_str pins s σ H _ us Q I rv ⟨_, _, rfl, (digit_text e).1, (digit_text e).2, q _ _ (zn_dt (.int _))⟩
  · exact nomatch hf
theorem bi_any (hc : X.calm = true) : CallR X (.builtin "any") (rBi "any") := by
  intro pins s σ H vs us Q I rv h
  obtain ⟨L, ds, nw, z, cs, hf, q⟩ := h
  have hf : s_any ds = some (nw, z) := hf
  revert cs
  unfold s_any at hf
  split at hf
  · rename_i l _
    intro cs
    cases cs with | cons c cs => cases cs with | nil => cases c with
    | lst r s1 =>
      cases e : allO isBl l with
      | none => rw [e] at hf; exact nomatch hf
      | some ns =>
        rw [e] at hf
        cases hf
        have := bls_of s1 e
        subst this
        exact cr_any hc pins s σ H _ us Q I rv ⟨_, _, rfl, .inl r, q _ _ (zn_dt (.bl _))⟩
  · exact nomatch hf
theorem bi_all (hc : X.calm = true) : CallR X (.builtin "all") (rBi "all") := by
  intro pins s σ H vs us Q I rv h
  obtain ⟨L, ds, nw, z, cs, hf, q⟩ := h
  have hf : s_all ds = some (nw, z) := hf
  revert cs
  unfold s_all at hf
  split at hf
  · rename_i l _
    intro cs
    cases cs with | cons c cs => cases cs with | nil => cases c with
    | lst r s1 =>
      cases e : allO isBl l with
      | none => rw [e] at hf; exact nomatch hf
      | some ns =>
        rw [e] at hf
        cases hf
        have := bls_of s1 e
        subst this
        exact cr_all hc pins s σ H _ us Q I rv ⟨_, _, rfl, .inl r, q _ _ (zn_dt (.bl _))⟩
  · exact nomatch hf
theorem bi_sorted : CallR X (.builtin "sorted") (rBi "sorted") := by
  intro pins s σ H vs us Q I rv h
  obtain ⟨L, ds, nw, z, cs, hf, q⟩ := h
  have hf : s_sorted ds = some (nw, z) := hf
  revert cs
  unfold s_sorted at hf
  split at hf
  · rename_i l _
    intro cs
    cases cs with | cons c cs => cases cs with | nil => cases c with
    | lst r s1 =>
      cases e : allO isInt l with
      | none => rw [e] at hf; exact nomatch hf
      | some ns =>
        rw [e] at hf
        simp only [Option.bind_some] at hf
        split at hf
        · rename_i hz
          cases hf
          have := ints_of s1 e
          subst this
          refine cr_sorted pins s σ H _ us Q I rv ⟨_, _, rfl, .inl r, hz, fun ns' p hp hw hn => ?_⟩
          have e1 := sortI_uniq hp hw
          subst e1
          exact q _ _ (zn_new hn (ints_dts _))
        · exact nomatch hf
  · exact nomatch hf
theorem bi_ok (hc : X.calm = true) {f : Str} {u : Value} (h : biV f = some u) : CallR X u (rBi f) := by
  unfold biV at h
  split at h
  · rename_i e; subst e; cases h; exact bi_len
  split at h
  · rename_i e; subst e; cases h; exact bi_list hc
  split at h
  · rename_i e; subst e; cases h; exact bi_tuple hc
  split at h
  · rename_i e; subst e; cases h; exact bi_sum hc
  split at h
  · rename_i e; subst e; cases h; exact bi_min hc
  split at h
  · rename_i e; subst e; cases h; exact bi_max hc
  split at h
  · rename_i e; subst e; cases h; exact bi_int
  split at h
  · rename_i e; subst e; cases h; exact bi_any hc
  split at h
  · rename_i e; subst e; cases h; exact bi_all hc
  split at h
  · rename_i e; subst e; cases h; exact bi_sorted
  · exact nomatch h
end
end En

set_option Elab.async false
set_option linter.all false
set_option maxRecDepth 100000
set_option maxHeartbeats 4000000
namespace En
open PySem PySem.Spec PyProof.Rows L2

/-! ### what zip and enumerate take: a list, a tuple, a text -/
structure Src (v : Value) (xs : List V) (G : Hp → Prop) (o : Obj) (c : List Addr) (Os : Addr → Nat → Heap → Prop) : Prop where
  at0 : ∀ it h, h.get? it = some o → Os it 0 h
  obj : ∀ it i h, Os it i h → ∃ o, h.get? it = some o ∧ ∀ v, o.data ≠ .cell v
  keep : ∀ it i h h', Os it i h → (∀ o, h.get? it = some o → h'.get? it = some o) → Os it i h'
  now : ∀ {X : Cx} {pins : List (Addr × Obj)} {σ : L2.St} {H : Hp} {s : Shared}, Inv X pins σ H s → G H → (∀ b ∈ c, b < s.heap.objs.size) ∧ (∃ B, Begins v o B ∧ B s.heap) ∧
    ∃ (Ct : Heap → Prop) (P : Nat → Value → Prop), Ct s.heap ∧ (∀ A it, A.handled = none → it ∉ c → Draws X.prog X.w A it (it :: c) xs.length P (fun i h => Os it i h ∧ Ct h)) ∧ ∀ i u, P i u → ∃ x, xs[i]? = some x ∧ RelV x u
theorem vals_getU {xs : List V} {us : List Value} (r : Vals xs us) : ∀ {i : Nat} {u : Value}, us[i]? = some u → ∃ x, xs[i]? = some x ∧ RelV x u := by
  induction r with
  | nil => intro i u h; simp at h
  | cons a t ih =>
    intro i u h
    cases i with
    | zero => simp at h; subst h; exact ⟨_, rfl, a⟩
    | succ i => simpa using ih (i := i) (by simpa using h)
theorem src_list (a : Addr) (xs : List V) : Src (.ref a) xs (fun H => Rd H a (.lst xs)) { cls := .type "list_iterator", data := .fields #[.ref a, .int 0 0] } [a] (fun it i h => h.IsListIter it a i) where
  at0 := fun it h e => ⟨_, e, rfl, rfl⟩
  obj := fun it i h ⟨o, e, _, d⟩ => ⟨o, e, fun v q => by rw [d] at q; cases q⟩
  keep := fun it i h h' st k => st.at k
  now := fun {X pins σ H s} I g => by
    obtain ⟨its, rv, p, _⟩ := I.list (a := a) (xs := xs) (.inl g)
    refine ⟨fun b hb => by rw [List.mem_singleton.mp hb]; exact p.lt, ⟨_, begins_list a its.toArray, p.isList⟩, fun h => h.IsList a its.toArray, fun i v => its.toArray[i]? = some v, p.isList, fun A it hh hn => ?_, fun i u h => ?_⟩
    · have := Draws.list (prog := X.prog) (w := X.w) hh it a (fun e => hn (by simp [e])) its.toArray
      rw [show its.toArray.size = xs.length by simp [rv.length]] at this
      exact this
    · exact vals_getU rv (by simpa using h)
theorem src_tup (a : Addr) (xs : List V) : Src (.ref a) xs (fun H => Rd H a (.tup xs)) { cls := .type "tuple_iterator", data := .fields #[.ref a, .int 0 0] } [a] (fun it i h => h.IsTupleIter it a i) where
  at0 := fun it h e => ⟨_, e, rfl, rfl⟩
  obj := fun it i h ⟨o, e, _, d⟩ => ⟨o, e, fun v q => by rw [d] at q; cases q⟩
  keep := fun it i h h' st k => st.at k
  now := fun {X pins σ H s} I g => by
    obtain ⟨its, rv, p, _⟩ := I.tuple (a := a) (xs := xs) (.inl g)
    have p' : s.heap.IsTuple a its.toArray := p
    refine ⟨fun b hb => by rw [List.mem_singleton.mp hb]; exact p.lt, ⟨_, begins_tuple a its.toArray, p'⟩, fun h => h.IsTuple a its.toArray, fun i v => its.toArray[i]? = some v, p', fun A it hh hn => ?_, fun i u h => ?_⟩
    · have := Draws.tuple (prog := X.prog) (w := X.w) hh it a (fun e => hn (by simp [e])) its.toArray
      rw [show its.toArray.size = xs.length by simp [rv.length]] at this
      exact this
    · exact vals_getU rv (by simpa using h)
def signsV (x : Str) : List V := x.cps.toList.map fun c => .str ⟨#[c]⟩
theorem src_str (x : Str) (t : Tok) : Src (.str x t) (signsV x) (fun _ => True) { cls := .type (strIterType x), data := .fields #[.str x t, .int 0 0] } [] (fun it i h => h.IsStrIter it (strIterType x) x t i) where
  at0 := fun it h e => ⟨_, e, rfl, rfl⟩
  obj := fun it i h ⟨o, e, _, d⟩ => ⟨o, e, fun v q => by rw [d] at q; cases q⟩
  keep := fun it i h h' ⟨o, e, c, d⟩ k => ⟨o, k o e, c, d⟩
  now := fun {X pins σ H s} I g => by
    refine ⟨fun b hb => absurd hb (by simp), ⟨_, begins_text x t, trivial⟩, fun _ => True, fun i v => ∃ c u, x.cps[i]? = some c ∧ v = .str ⟨#[c]⟩ u, trivial, fun A it hh hn => ?_, fun i u h => ?_⟩
    · have := Draws.text (prog := X.prog) (w := X.w) hh it x t
      have el : (signsV x).length = x.cps.size := by simp [signsV]
      rw [el]
      exact ⟨fun i h st => this.live i h st.1, fun i h h' st k => ⟨this.frame i h h' st.1 k, trivial⟩, fun i s Q E hi st hQ => this.item i s Q E hi st.1 fun x h' tk p st' sb => hQ x h' tk p ⟨st', trivial⟩ sb, fun s Q E st hE => this.done s Q E st.1 hE⟩
    · obtain ⟨c, u', hc, rfl⟩ := h
      refine ⟨.str ⟨#[c]⟩, ?_, _, rfl⟩
      unfold signsV
      rw [List.getElem?_map, show x.cps.toList[i]? = x.cps[i]? by simp, hc]
      rfl
/-- a value as a source -/
def SrcOf (x : V) (xs : List V) (G : Hp → Prop) : Prop := ∀ v, RelV x v → ∃ o c Os, Src v xs G o c Os
theorem srcOf_list (a : Addr) (xs : List V) : SrcOf (.ref a) xs fun H => Rd H a (.lst xs) := fun v r => by cases r; exact ⟨_, _, _, src_list a xs⟩
theorem srcOf_tup (a : Addr) (xs : List V) : SrcOf (.ref a) xs fun H => Rd H a (.tup xs) := fun v r => by cases r; exact ⟨_, _, _, src_tup a xs⟩
theorem srcOf_str (x : Str) : SrcOf (.str x) (signsV x) fun _ => True := fun v r => by obtain ⟨t, rfl⟩ := r; exact ⟨_, _, _, src_str x t⟩

/-! ### zip of two, of three -/
def Jz2 (xs ys : List V) (G1 G2 : Hp → Prop) : It :=
  ⟨fun i H => i < xs.length ∧ i < ys.length ∧ G1 H ∧ G2 H, fun i H v H' => ∃ T x y, v = .ref T ∧ H T = none ∧ H' = upd H T (.tup [x, y]) ∧ xs[i]? = some x ∧ ys[i]? = some y,
    fun i H => i ≤ xs.length ∧ i ≤ ys.length ∧ (i = xs.length ∨ i = ys.length) ∧ G1 H ∧ G2 H⟩
theorem turn_z2 {P : Program} {w : World} {K : PySem.W.Frag} {elts : List Expr} {kk : Nat} {tpos : Pos} {z TI TO i1 i2 : Addr} {c1 c2 : List Addr} {v1 v2 : Value} {xs ys : List V} {G1 G2 : Hp → Prop} {o1 o2 : Obj} {Os1 Os2 : Addr → Nat → Heap → Prop}
    (B1 : Src v1 xs G1 o1 c1 Os1) (B2 : Src v2 ys G2 o2 c2 Os2) (S : ZipSep2 z TI TO i1 i2 (i1 :: c1) (i2 :: c2)) (n1 : i1 ∉ c1) (n2 : i2 ∉ c2) :
    Turn P w K (.Tuple elts kk tpos) (Jz2 xs ys G1 G2) [z, TI, TO, i1, i2] z (fun i h => IsZip h z TI TO .none ∧ IsTupOf2 h TI (.ref i1) (.ref i2) ∧ (∃ x y, IsTupOf2 h TO x y) ∧ Os1 i1 i h ∧ Os2 i2 i h) where
  mem := by simp
  obj := fun i h st c hc => by
    obtain ⟨hz, hTI, ⟨x, y, hTO⟩, h1, h2⟩ := st
    have e' : c = z ∨ c = TI ∨ c = TO ∨ c = i1 ∨ c = i2 := by simpa using hc
    rcases e' with q | q | q | q | q
    · rw [q]; exact ⟨_, hz, fun v q => nomatch q⟩
    · rw [q]; exact ⟨_, hTI, fun v q => nomatch q⟩
    · rw [q]; exact ⟨_, hTO, fun v q => nomatch q⟩
    · rw [q]; exact B1.obj _ _ _ h1
    · rw [q]; exact B2.obj _ _ _ h2
  keep := fun i h h' st k => by
    obtain ⟨hz, hTI, ⟨x, y, hTO⟩, h1, h2⟩ := st
    exact ⟨k z (by simp) _ hz, k TI (by simp) _ hTI, ⟨x, y, k TO (by simp) _ hTO⟩, B1.keep _ _ _ _ h1 fun o q => k i1 (by simp) o q, B2.keep _ _ _ _ h2 fun o q => k i2 (by simp) o q⟩
  item := by
    intro X hP hw hK hc i pins s σ H E I hf st hg
    subst hP hw hK
    obtain ⟨hz, hTI, ⟨x0, y0, hTO⟩, h1, h2⟩ := st
    obtain ⟨l1, l2, g1, g2⟩ := hg
    obtain ⟨_, _, C1, P1, hC1, D1, R1⟩ := B1.now I g1
    obtain ⟨_, _, C2, P2, hC2, D2, R2⟩ := B2.now I g2
    have hzl : z < s.heap.objs.size := Heap.lt_size hz
    have hh : X.A.in1.handled = none := I.ok.hd hc
    refine wpAny_pyNext_zipD2_item S (D1 X.A.in1 i1 hh n1) (D2 X.A.in1 i2 hh n2) hz hTI hTO ⟨h1, hC1⟩ ⟨h2, hC2⟩ l1 l2 fun u1 u2 h' tk p1 p2 z' TO' h1' h2' hT hsz hk => ?_
    obtain ⟨x, hx, ru⟩ := R1 i u1 p1
    obtain ⟨y, hy, ru2⟩ := R2 i u2 p2
    refine ⟨_, rfl, wpAny_letOwnedTupleGo_zip (s := { s with heap := h', toks := tk }) z' fun h'' z'' sb => ?_⟩
    have hT2 : h''.get? s.heap.objs.size = some { cls := .type "tuple", data := .seq #[u1, u2] } := (sb.2 _ (Nat.ne_of_gt hzl)).trans hT
    have new : ObjOk X.prog X.w (upd H s.heap.objs.size (.tup [x, y])) h'' s.heap.objs.size (.tup [x, y]) :=
      ⟨by show 2 ≤ sizeLine; decide, [u1, u2], .cons ru (.cons ru2 .nil), ⟨_, hT2, rfl, _, rfl⟩⟩
    have I1 : Inv X pins σ (upd H s.heap.objs.size (.tup [x, y])) { s with heap := h'', toks := tk } :=
      I.turnedNew (t' := tk) (ch := [z, TI, TO, i1, i2]) (fun c o hb q => (sb.2 c (fun q' => hb (by simp [q']))).trans (hk c o (fun q' => hb (by simp [q'])) (fun q' => hb (by simp [q'])) (fun q' => hb (by simp [q'])) (fun q' => hb (by simp [q'])) q)) hf (Nat.le_refl _) new
    refine ⟨.ref s.heap.objs.size, _, I1, rfl, ⟨_, x, y, rfl, I.hok.fresh (Nat.le_refl _), rfl, hx, hy⟩, ⟨z'', ?_, ⟨u1, u2, ?_⟩, ?_, ?_⟩, fun c hcm => ?_⟩
    · exact (sb.2 _ S.TIz).trans (hk _ _ S.TIz S.TITO S.TIi1 S.TIi2 hTI)
    · exact (sb.2 _ S.TOz).trans TO'
    · exact B1.keep _ _ _ _ h1'.1 fun o q => (sb.2 _ (Ne.symm S.zi1)).trans q
    · exact B2.keep _ _ _ _ h2'.1 fun o q => (sb.2 _ (Ne.symm S.zi2)).trans q
    · have hlt : c < s.heap.objs.size := by
        have e' : c = z ∨ c = TI ∨ c = TO ∨ c = i1 ∨ c = i2 := by simpa using hcm
        rcases e' with q | q | q | q | q
        · rw [q]; exact hzl
        · rw [q]; exact Heap.lt_size hTI
        · rw [q]; exact Heap.lt_size hTO
        · rw [q]; obtain ⟨_, e1, _⟩ := B1.obj _ _ _ h1; exact Heap.lt_size e1
        · rw [q]; obtain ⟨_, e1, _⟩ := B2.obj _ _ _ h2; exact Heap.lt_size e1
      rw [upd_ne (Nat.ne_of_lt hlt)]
      exact (hf c hcm).1
  done := by
    intro X hP hw hK hc i pins s σ H E I hf st hg
    subst hP hw hK
    obtain ⟨hz, hTI, ⟨x0, y0, hTO⟩, h1, h2⟩ := st
    obtain ⟨l1, l2, he, g1, g2⟩ := hg
    obtain ⟨_, _, C1, P1, hC1, D1, R1⟩ := B1.now I g1
    obtain ⟨_, _, C2, P2, hC2, D2, R2⟩ := B2.now I g2
    have hh : X.A.in1.handled = none := I.ok.hd hc
    exact wpAny_pyNext_zipD2_end S (D1 X.A.in1 i1 hh n1) (D2 X.A.in1 i2 hh n2) hz hTI hTO ⟨h1, hC1⟩ ⟨h2, hC2⟩ l1 l2 he fun h' tk hk => ⟨rfl, I.turnedL (t' := tk) (ch := [z, TI, TO, i1, i2]) (fun c o hb q =>
      hk c o (fun q' => hb (by simp [q'])) (fun q' => hb (by simp [q'])) (fun q' => hb (by simp [q'])) (fun q' => hb (by simp [q'])) q) hf⟩
  self := fun A i s Q E st h => wpAny_pyIter_zip st.1 h
def Jz3 (xs ys zs : List V) (G1 G2 G3 : Hp → Prop) : It :=
  ⟨fun i H => i < xs.length ∧ i < ys.length ∧ i < zs.length ∧ G1 H ∧ G2 H ∧ G3 H, fun i H v H' => ∃ T x y z, v = .ref T ∧ H T = none ∧ H' = upd H T (.tup [x, y, z]) ∧ xs[i]? = some x ∧ ys[i]? = some y ∧ zs[i]? = some z,
    fun i H => i ≤ xs.length ∧ i ≤ ys.length ∧ i ≤ zs.length ∧ (i = xs.length ∨ i = ys.length ∨ i = zs.length) ∧ G1 H ∧ G2 H ∧ G3 H⟩
theorem turn_z3 {P : Program} {w : World} {K : PySem.W.Frag} {elts : List Expr} {kk : Nat} {tpos : Pos} {z TI TO i1 i2 i3 : Addr} {c1 c2 c3 : List Addr} {v1 v2 v3 : Value} {xs ys zs : List V} {G1 G2 G3 : Hp → Prop} {o1 o2 o3 : Obj} {Os1 Os2 Os3 : Addr → Nat → Heap → Prop}
    (B1 : Src v1 xs G1 o1 c1 Os1) (B2 : Src v2 ys G2 o2 c2 Os2) (B3 : Src v3 zs G3 o3 c3 Os3) (S : ZipSep3 z TI TO i1 i2 i3 (i1 :: c1) (i2 :: c2) (i3 :: c3)) (n1 : i1 ∉ c1) (n2 : i2 ∉ c2) (n3 : i3 ∉ c3) :
    Turn P w K (.Tuple elts kk tpos) (Jz3 xs ys zs G1 G2 G3) [z, TI, TO, i1, i2, i3] z (fun i h => IsZip h z TI TO .none ∧ IsTupOf3 h TI (.ref i1) (.ref i2) (.ref i3) ∧ (∃ x y u, IsTupOf3 h TO x y u) ∧ Os1 i1 i h ∧ Os2 i2 i h ∧ Os3 i3 i h) where
  mem := by simp
  obj := fun i h st c hc => by
    obtain ⟨hz, hTI, ⟨x, y, u, hTO⟩, h1, h2, h3⟩ := st
    have e' : c = z ∨ c = TI ∨ c = TO ∨ c = i1 ∨ c = i2 ∨ c = i3 := by simpa using hc
    rcases e' with q | q | q | q | q | q
    · rw [q]; exact ⟨_, hz, fun v q => nomatch q⟩
    · rw [q]; exact ⟨_, hTI, fun v q => nomatch q⟩
    · rw [q]; exact ⟨_, hTO, fun v q => nomatch q⟩
    · rw [q]; exact B1.obj _ _ _ h1
    · rw [q]; exact B2.obj _ _ _ h2
    · rw [q]; exact B3.obj _ _ _ h3
  keep := fun i h h' st k => by
    obtain ⟨hz, hTI, ⟨x, y, u, hTO⟩, h1, h2, h3⟩ := st
    exact ⟨k z (by simp) _ hz, k TI (by simp) _ hTI, ⟨x, y, u, k TO (by simp) _ hTO⟩, B1.keep _ _ _ _ h1 fun o q => k i1 (by simp) o q, B2.keep _ _ _ _ h2 fun o q => k i2 (by simp) o q, B3.keep _ _ _ _ h3 fun o q => k i3 (by simp) o q⟩
  item := by
    intro X hP hw hK hc i pins s σ H E I hf st hg
    subst hP hw hK
    obtain ⟨hz, hTI, ⟨x0, y0, u0, hTO⟩, h1, h2, h3⟩ := st
    obtain ⟨l1, l2, l3, g1, g2, g3⟩ := hg
    obtain ⟨_, _, C1, P1, hC1, D1, R1⟩ := B1.now I g1
    obtain ⟨_, _, C2, P2, hC2, D2, R2⟩ := B2.now I g2
    obtain ⟨_, _, C3, P3, hC3, D3, R3⟩ := B3.now I g3
    have hzl : z < s.heap.objs.size := Heap.lt_size hz
    have hh : X.A.in1.handled = none := I.ok.hd hc
    refine wpAny_pyNext_zipD3_item S (D1 X.A.in1 i1 hh n1) (D2 X.A.in1 i2 hh n2) (D3 X.A.in1 i3 hh n3) hz hTI hTO ⟨h1, hC1⟩ ⟨h2, hC2⟩ ⟨h3, hC3⟩ l1 l2 l3 fun u1 u2 u3 h' tk p1 p2 p3 z' TO' h1' h2' h3' hT hsz hk => ?_
    obtain ⟨x, hx, ru⟩ := R1 i u1 p1
    obtain ⟨y, hy, ru2⟩ := R2 i u2 p2
    obtain ⟨y3, hy3, ru3⟩ := R3 i u3 p3
    refine ⟨_, rfl, wpAny_letOwnedTupleGo_zip (s := { s with heap := h', toks := tk }) z' fun h'' z'' sb => ?_⟩
    have hT2 : h''.get? s.heap.objs.size = some { cls := .type "tuple", data := .seq #[u1, u2, u3] } := (sb.2 _ (Nat.ne_of_gt hzl)).trans hT
    have new : ObjOk X.prog X.w (upd H s.heap.objs.size (.tup [x, y, y3])) h'' s.heap.objs.size (.tup [x, y, y3]) :=
      ⟨by show 3 ≤ sizeLine; decide, [u1, u2, u3], .cons ru (.cons ru2 (.cons ru3 .nil)), ⟨_, hT2, rfl, _, rfl⟩⟩
    have I1 : Inv X pins σ (upd H s.heap.objs.size (.tup [x, y, y3])) { s with heap := h'', toks := tk } :=
      I.turnedNew (t' := tk) (ch := [z, TI, TO, i1, i2, i3]) (fun c o hb q => (sb.2 c (fun q' => hb (by simp [q']))).trans (hk c o (fun q' => hb (by simp [q'])) (fun q' => hb (by simp [q'])) (fun q' => hb (by simp [q'])) (fun q' => hb (by simp [q'])) (fun q' => hb (by simp [q'])) q)) hf (Nat.le_refl _) new
    refine ⟨.ref s.heap.objs.size, _, I1, rfl, ⟨_, x, y, y3, rfl, I.hok.fresh (Nat.le_refl _), rfl, hx, hy, hy3⟩, ⟨z'', ?_, ⟨u1, u2, u3, ?_⟩, ?_, ?_, ?_⟩, fun c hcm => ?_⟩
    · exact (sb.2 _ S.TIz).trans (hk _ _ S.TIz S.TITO S.TIi1 S.TIi2 S.TIi3 hTI)
    · exact (sb.2 _ S.TOz).trans TO'
    · exact B1.keep _ _ _ _ h1'.1 fun o q => (sb.2 _ (Ne.symm S.zi1)).trans q
    · exact B2.keep _ _ _ _ h2'.1 fun o q => (sb.2 _ (Ne.symm S.zi2)).trans q
    · exact B3.keep _ _ _ _ h3'.1 fun o q => (sb.2 _ (Ne.symm S.zi3)).trans q
    · have hlt : c < s.heap.objs.size := by
        have e' : c = z ∨ c = TI ∨ c = TO ∨ c = i1 ∨ c = i2 ∨ c = i3 := by simpa using hcm
        rcases e' with q | q | q | q | q | q
        · rw [q]; exact hzl
        · rw [q]; exact Heap.lt_size hTI
        · rw [q]; exact Heap.lt_size hTO
        · rw [q]; obtain ⟨_, e1, _⟩ := B1.obj _ _ _ h1; exact Heap.lt_size e1
        · rw [q]; obtain ⟨_, e1, _⟩ := B2.obj _ _ _ h2; exact Heap.lt_size e1
        · rw [q]; obtain ⟨_, e1, _⟩ := B3.obj _ _ _ h3; exact Heap.lt_size e1
      rw [upd_ne (Nat.ne_of_lt hlt)]
      exact (hf c hcm).1
  done := by
    intro X hP hw hK hc i pins s σ H E I hf st hg
    subst hP hw hK
    obtain ⟨hz, hTI, ⟨x0, y0, u0, hTO⟩, h1, h2, h3⟩ := st
    obtain ⟨l1, l2, l3, he, g1, g2, g3⟩ := hg
    obtain ⟨_, _, C1, P1, hC1, D1, R1⟩ := B1.now I g1
    obtain ⟨_, _, C2, P2, hC2, D2, R2⟩ := B2.now I g2
    obtain ⟨_, _, C3, P3, hC3, D3, R3⟩ := B3.now I g3
    have hh : X.A.in1.handled = none := I.ok.hd hc
    exact wpAny_pyNext_zipD3_end S (D1 X.A.in1 i1 hh n1) (D2 X.A.in1 i2 hh n2) (D3 X.A.in1 i3 hh n3) hz hTI hTO ⟨h1, hC1⟩ ⟨h2, hC2⟩ ⟨h3, hC3⟩ l1 l2 l3 he fun h' tk hk => ⟨rfl, I.turnedL (t' := tk) (ch := [z, TI, TO, i1, i2, i3]) (fun c o hb q =>
      hk c o (fun q' => hb (by simp [q'])) (fun q' => hb (by simp [q'])) (fun q' => hb (by simp [q'])) (fun q' => hb (by simp [q'])) (fun q' => hb (by simp [q'])) q) hf⟩
  self := fun A i s Q E st h => wpAny_pyIter_zip st.1 h
/-! ### enumerate -/
def Jen (xs : List V) (G1 : Hp → Prop) : It :=
  ⟨fun i H => i < xs.length ∧ G1 H, fun i H v H' => ∃ T x, v = .ref T ∧ H T = none ∧ H' = upd H T (.tup [.int (i : Nat), x]) ∧ xs[i]? = some x, fun i H => i = xs.length ∧ G1 H⟩
theorem turn_en {P : Program} {w : World} {K : PySem.W.Frag} {elts : List Expr} {kk : Nat} {tpos : Pos} {e it : Addr} {c1 : List Addr} {v1 : Value} {xs : List V} {G1 : Hp → Prop} {o1 : Obj} {Os1 : Addr → Nat → Heap → Prop}
    (B1 : Src v1 xs G1 o1 c1 Os1) (n1 : it ∉ c1) (hne : e ≠ it) (hec : e ∉ c1) :
    Turn P w K (.Tuple elts kk tpos) (Jen xs G1) [e, it] e (fun i h => (∃ old, IsEnum h e it ((i : Nat) : Int) old) ∧ Os1 it i h) where
  mem := by simp
  obj := fun i h st b hb => by
    obtain ⟨⟨old, he⟩, h1⟩ := st
    have e' : b = e ∨ b = it := by simpa using hb
    rcases e' with z | z
    · rw [z]; exact ⟨_, he, fun v q => nomatch q⟩
    · rw [z]; exact B1.obj _ _ _ h1
  keep := fun i h h' st k => let ⟨⟨old, he⟩, hi⟩ := st; ⟨⟨old, k e (by simp) _ he⟩, B1.keep _ _ _ _ hi fun o q => k it (by simp) o q⟩
  item := by
    intro X hP hw hK hc i pins s σ H E I hf st hg
    subst hP hw hK
    obtain ⟨⟨old, he⟩, h1⟩ := st
    obtain ⟨l1, g1⟩ := hg
    obtain ⟨_, _, C1, P1, hC1, D1, R1⟩ := B1.now I g1
    have hh : X.A.in1.handled = none := I.ok.hd hc
    have hel : e < s.heap.objs.size := Heap.lt_size he
    have hil : it < s.heap.objs.size := by obtain ⟨_, q, _⟩ := B1.obj _ _ _ h1; exact Heap.lt_size q
    have hef : e ∉ it :: c1 := fun q => by
      rcases List.mem_cons.mp q with q | q
      · exact hne q
      · exact hec q
    refine wpAny_pyNext_enum_itemD (D1 X.A.in1 it hh n1) he ⟨h1, hC1⟩ l1 hne hef fun u h' tk p1 ho st' hT hsz hk => ?_
    obtain ⟨x, hx, ru⟩ := R1 i u p1
    refine ⟨_, rfl, wpAny_letOwnedTupleGo_enum (s := { s with heap := h', toks := tk + 1 }) ho fun h'' he' sb => ?_⟩
    have hT2 : h''.get? s.heap.objs.size = some { cls := .type "tuple", data := .seq #[.int i tk, u] } := (sb.2 _ (Nat.ne_of_gt hel)).trans hT
    have new : ObjOk X.prog X.w (upd H s.heap.objs.size (.tup [.int (i : Nat), x])) h'' s.heap.objs.size (.tup [.int (i : Nat), x]) :=
      ⟨by show 2 ≤ sizeLine; decide, [.int i tk, u], .cons ⟨_, rfl⟩ (.cons ru .nil), ⟨_, hT2, rfl, _, rfl⟩⟩
    have I1 : Inv X pins σ (upd H s.heap.objs.size (.tup [.int (i : Nat), x])) { s with heap := h'', toks := tk + 1 } :=
      I.turnedNew (ch := [e, it]) (fun b ob hb q => (sb.2 b (fun z => hb (by simp [z]))).trans (hk b ob (fun z => hb (by simp [z])) (fun z => hb (by simp [z])) q)) hf (Nat.le_refl _) new
    refine ⟨.ref s.heap.objs.size, _, I1, rfl, ⟨_, x, rfl, I.hok.fresh (Nat.le_refl _), rfl, hx⟩, ⟨⟨u, ?_⟩, B1.keep _ _ _ _ st'.1 fun o q => (sb.2 it (Ne.symm hne)).trans q⟩, fun b hb => ?_⟩
    · have e1 : ((i + 1 : Nat) : Int) = (i : Int) + 1 := by omega
      rw [e1]; exact he'
    · have hb' : b < s.heap.objs.size := by
        have e' : b = e ∨ b = it := by simpa using hb
        rcases e' with z | z
        · rw [z]; exact hel
        · rw [z]; exact hil
      rw [upd_ne (Nat.ne_of_lt hb')]
      exact (hf b hb).1
  done := by
    intro X hP hw hK hc i pins s σ H E I hf st hg
    subst hP hw hK
    obtain ⟨⟨old, he⟩, h1⟩ := st
    obtain ⟨l1, g1⟩ := hg
    subst l1
    obtain ⟨_, _, C1, P1, hC1, D1, R1⟩ := B1.now I g1
    have hh : X.A.in1.handled = none := I.ok.hd hc
    exact wpAny_pyNext_enum_endD (D1 X.A.in1 it hh n1) he ⟨h1, hC1⟩ fun h' eb => ⟨rfl, I.turnedL (t' := s.toks) (ch := [e, it]) (fun b o hb q => eb b o (fun z => hb (by simp [z])) q) hf⟩
  self := fun A i s Q E st h => by
    obtain ⟨⟨old, he⟩, _⟩ := st
    exact wpAny_pyIter_enum he h
end En

set_option Elab.async false
set_option linter.all false
set_option maxRecDepth 100000
set_option maxHeartbeats 4000000
namespace En
open PySem PySem.Spec PyProof.Rows L2

/-! ### the state: H0, M0 at the def's entry (M0: what others may change), H, M now -/
def Lm (H0 : Hp) (M : AS) (m : Bool) : AS := fun a => ¬ M a ∧ (m = false → H0 a = none)
theorem Lm.le {H0 : Hp} {M : AS} {m m' : Bool} (h : m = true → m' = true) {a : Addr} (q : Lm H0 M m a) : Lm H0 M m' a := ⟨q.1, fun e => q.2 (by cases m with
  | false => rfl
  | true => rw [h rfl] at e; cases e)⟩
theorem Lm.orl {H0 : Hp} {M : AS} {m m' : Bool} {a : Addr} (q : Lm H0 M m a) : Lm H0 M (m || m') a := q.le fun e => by simp [e]
theorem Lm.orr {H0 : Hp} {M : AS} {m m' : Bool} {a : Addr} (q : Lm H0 M m' a) : Lm H0 M (m || m') a := q.le fun e => by simp [e]
/-- an object of one's own -/
inductive Ob (H : Hp) (L : AS) (a : Addr) : D → Prop
  | lst {xs : List V} {ds : List D} : H a = some (.lst xs) → Dts H L xs ds → Ob H L a (.list ds)
  | dK {kvs : List (Key × V)} {es : List (D × D)} : H a = some (.dK kvs) → es.map (·.1) = kvs.map (fun kv => keyD kv.1) → Dvs H L (kvs.map (·.2)) es → Ob H L a (.dict es)
theorem Ob.go {H H' : Hp} {L L' : AS} {a : Addr} {d : D} (h : Ob H L a d) (ha : H' a = H a) (hl : ∀ a u, L a → H a = some u → H' a = some u ∧ L' a) (ht : ∀ a xs, Rd H a (.tup xs) → Rd H' a (.tup xs)) : Ob H' L' a d := by
  cases h with
  | lst e s => exact .lst (ha.trans e) (Dts.go hl ht _ _ s)
  | dK e k s => exact .dK (ha.trans e) k (Dvs.go hl ht _ _ s)
theorem Ob.there {H : Hp} {L : AS} {a : Addr} {d : D} (h : Ob H L a d) : ∃ o, H a = some o ∧ Mut (some o) := by
  cases h with
  | lst e s => exact ⟨_, e, trivial⟩
  | dK e k s => exact ⟨_, e, trivial⟩
theorem sm_ob {H H' : Hp} {L : AS} (e : Same H H') {a : Addr} {d : D} (h : Ob H L a d) : Ob H' L a d := by
  obtain ⟨o, q, _⟩ := h.there
  exact h.go ((e _ _ q).trans q.symm) (fun _ _ l r => ⟨e _ _ r, l⟩) fun _ _ r => sm_rd e r
theorem Ob.wk {H : Hp} {L L' : AS} (l : ∀ a, L a → L' a) {a : Addr} {d : D} (h : Ob H L a d) : Ob H L' a d := h.go rfl (fun a _ q r => ⟨r, l a q⟩) fun _ _ r => r
theorem Ob.cn {H : Hp} {L : AS} {a : Addr} {d : D} (h : Ob H L a d) : Cn H L (.ref a) d := by
  cases h with
  | lst e s => exact .lst (.inl e) s
  | dK e k s => exact .dK e k s
theorem Ob.dt {H : Hp} {L : AS} {a : Addr} {d : D} (h : Ob H L a d) (l : L a) : Dt H L (.ref a) d := by
  cases h with
  | lst e s => exact .lst l (.inl e) s
  | dK e k s => exact .dK l e k s

def SlOk (H0 H : Hp) (M : AS) (o : Option (Option V)) : Sl → Prop
  | .no => True
  | .fr m d => ∃ v, o = some (some v) ∧ Dt H (Lm H0 M m) v d
  | .ow m d => ∃ a, o = some (some (.ref a)) ∧ M a ∧ H0 a = none ∧ Ob H (Lm H0 M m) a d
  | .pt v => o = some (some v)
  | .kn v m d => o = some (some v) ∧ Dt H (Lm H0 M m) v d
structure EnvOk (H0 : Hp) (M0 : AS) (H : Hp) (M : AS) (σ : List (Option V)) (env : List Sl) : Prop where
  len : σ.length = env.length
  same : Same H0 H
  m0 : ∀ a, M0 a → M a ∧ H0 a ≠ none
  dom : ∀ a, M a → ∃ o, H a = some o ∧ Mut (some o)
  sl : ∀ (i : Nat) (s : Sl), env[i]? = some s → SlOk H0 H M (σ[i]?) s
  dis : ∀ (i j : Nat) (m : Bool) (d : D) (m' : Bool) (d' : D) (a : Addr), env[i]? = some (.ow m d) → env[j]? = some (.ow m' d') → σ[i]? = some (some (.ref a)) → σ[j]? = some (some (.ref a)) → i = j
theorem SlOk.same {H0 H H' : Hp} {M : AS} {o : Option (Option V)} {s : Sl} (e : Same H H') (h : SlOk H0 H M o s) : SlOk H0 H' M o s := by
  cases s with
  | no => trivial
  | fr m d => obtain ⟨v, q, t⟩ := h; exact ⟨v, q, sm_dt e t⟩
  | ow m d => obtain ⟨a, q, x, y, t⟩ := h; exact ⟨a, q, x, y, sm_ob e t⟩
  | pt v => exact h
  | kn v m d => exact ⟨h.1, sm_dt e h.2⟩
theorem EnvOk.up {H0 : Hp} {M0 : AS} {H H' : Hp} {M : AS} {σ : L2.St} {env : List Sl} (h : EnvOk H0 M0 H M σ env) (e : Same H H') : EnvOk H0 M0 H' M σ env :=
  ⟨h.len, h.same.trans e, h.m0, fun a m => let ⟨o, q, t⟩ := h.dom a m; ⟨o, e _ _ q, t⟩, fun i s q => (h.sl i s q).same e, h.dis⟩
theorem EnvOk.fresh {H0 : Hp} {M0 : AS} {H : Hp} {M : AS} {σ : L2.St} {env : List Sl} (h : EnvOk H0 M0 H M σ env) {a : Addr} (e : H a = none) : ¬ M a ∧ H0 a = none :=
  ⟨fun m => (by obtain ⟨o, q, _⟩ := h.dom a m; rw [e] at q; cases q), h.same.free e⟩

def RvOk (H0 : Hp) (M : AS) (Hs H : Hp) (v : V) : Rv → Prop
  | .fr m d => Dt H (Lm H0 M m) v d
  | .ow m d => ∃ a, v = .ref a ∧ Hs a = none ∧ ¬ M a ∧ H0 a = none ∧ Ob H (fun b => Lm H0 M m b ∧ b ≠ a) a d
  | .bo m d => Cn H (Lm H0 M m) v d
theorem RvOk.same {H0 : Hp} {M : AS} {Hs H H' : Hp} {v : V} {r : Rv} (e : Same H H') (h : RvOk H0 M Hs H v r) : RvOk H0 M Hs H' v r := by
  cases r with
  | fr m d => exact sm_dt e h
  | ow m d => obtain ⟨a, x, y, z, u, t⟩ := h; exact ⟨a, x, y, z, u, sm_ob e t⟩
  | bo m d => exact sm_cn e h
theorem RvOk.back {H0 : Hp} {M : AS} {Hs Hs' H : Hp} {v : V} {r : Rv} (e : Same Hs' Hs) (h : RvOk H0 M Hs H v r) : RvOk H0 M Hs' H v r := by
  cases r with
  | fr m d => exact h
  | ow m d => obtain ⟨a, x, y, z, u, t⟩ := h; exact ⟨a, x, e.free y, z, u, t⟩
  | bo m d => exact h
theorem RvOk.cn {H0 : Hp} {M : AS} {Hs H : Hp} {v : V} {r : Rv} (h : RvOk H0 M Hs H v r) : Cn H (Lm H0 M r.m) v r.d := by
  cases r with
  | fr m d => exact Dt.cn h
  | ow m d => obtain ⟨a, rfl, _, _, _, t⟩ := h; exact (t.wk fun _ q => q.1).cn
  | bo m d => exact h
/-- it is put away -/
theorem RvOk.sto {H0 : Hp} {M : AS} {Hs H : Hp} {v : V} {r : Rv} {p : Bool × D} (h : RvOk H0 M Hs H v r) (e : En.sto r = .ok p) : Dt H (Lm H0 M p.1) v p.2 := by
  have fin : ∀ {m : Bool} {d : D}, Dt H (Lm H0 M m) v d → Dt H (Lm H0 M (m && !imm d)) v d := fun {m d} t => by
    cases q : imm d with
    | true => exact Dt.imm d v q t
    | false => simpa using t
  cases r with
  | fr m d => cases e; exact fin h
  | ow m d =>
    cases e
    obtain ⟨a, rfl, _, y, u, t⟩ := h
    exact fin ((t.wk (L' := Lm H0 M m) fun _ q => q.1).dt ⟨y, fun _ => u⟩)
  | bo m d => cases e
theorem zn_rv {H0 : Hp} {M0 : AS} {Hs H H' : Hp} {M : AS} {σ : L2.St} {env : List Sl} {v : V} {nw : Bool} {z : D} {m : Bool} (ok : EnvOk H0 M0 H M σ env) (e : Same Hs H) (h : Zn H (Lm H0 M m) H' v nw z) : RvOk H0 M Hs H' v (mk m nw z) := by
  obtain ⟨s, h⟩ := h
  unfold mk
  cases nw with
  | true =>
    rw [if_pos rfl] at h ⊢
    obtain ⟨p, xs, ds, rfl, hp, rfl, q, t⟩ := h
    exact ⟨p, rfl, e.free hp, (ok.fresh hp).1, (ok.fresh hp).2, .lst q t⟩
  | false =>
    rw [if_neg (by simp)] at h ⊢
    show Dt H' (Lm H0 M (m && !sc z)) v z
    cases q : sc z with
    | true => exact h.cn.dt_sc q
    | false => simpa using h

/-! ### what is wanted behind a run -/
section
variable (E : XK) (mg : Str → Option Value)
def Rp {α : Type} (H : Hp) (r : R α) (k : α → Prop) : Prop := match r with
  | .bad => False
  | .err x => ∀ C H', mg x = some (.ref C) → Same H H' → E (.ref C) none H'
  | .ok a => k a
end
section
variable {E : XK} {mg : Str → Option Value}
theorem Rp.bind {α β : Type} {H : Hp} {r : R α} {f : α → R β} {k : β → Prop} (h : Rp E mg H (r.bind f) k) : Rp E mg H r fun a => Rp E mg H (f a) k := by
  cases r with
  | bad => exact h
  | err x => exact h
  | ok a => exact h
theorem Rp.of_bind {α β : Type} {H : Hp} {r : R α} {f : α → R β} {k : β → Prop} (h : Rp E mg H r fun a => Rp E mg H (f a) k) : Rp E mg H (r.bind f) k := by
  cases r with
  | bad => exact h
  | err x => exact h
  | ok a => exact h
theorem Rp.imp {α : Type} {H : Hp} {r : R α} {k k' : α → Prop} (h : Rp E mg H r k) (i : ∀ a, r = .ok a → k a → k' a) : Rp E mg H r k' := by
  cases r with
  | bad => exact h
  | err x => exact h
  | ok a => exact i a rfl h
theorem Rp.same {α : Type} {H H1 : Hp} {r : R α} {k : α → Prop} (h : Rp E mg H r k) (e : Same H H1) : Rp E mg H1 r k := by
  cases r with
  | bad => exact h
  | err x => exact fun C H' q s => h C H' q (e.trans s)
  | ok a => exact h
theorem Rp.ok {α : Type} {H : Hp} {a : α} {k : α → Prop} (h : Rp E mg H (.ok a) k) : k a := h
theorem Rp.lift {H : Hp} {m : Bool} {o : Option (Bool × D)} {k : Rv → Prop} (h : Rp E mg H (En.lift m o) k) : ∃ nw z, o = some (nw, z) ∧ k (mk m nw z) := by
  cases o with
  | none => exact False.elim h
  | some p => exact ⟨p.1, p.2, rfl, h⟩
theorem Rp.liftB {H : Hp} {o : Option Bool} {k : Rv → Prop} (h : Rp E mg H (En.liftB o) k) : ∃ b, o = some b ∧ k (.fr false (.bool b)) := by
  cases o with
  | none => exact False.elim h
  | some p => exact ⟨p, rfl, h⟩
end

/-! ### a def's promise, by data -/
def spG (mg : Str → Option Value) (n : Nat) (g : List D → R Rv) : Sp := fun vs H Q E => vs.length = n ∧ ∃ (M : AS) (ds : List D), (∀ a, M a → ∃ o, H a = some o ∧ Mut (some o)) ∧ Dts H (fun a => ¬ M a) vs ds ∧
  Rp E mg H (g ds) fun r => ∀ v H', Same H H' → RvOk H M H H' v r → Q v H'
structure Ok (X : Cx) (Γ : FT) (E : XK) (k : Nat) : Prop where
  calm : X.calm = true
  nd : X.N.Nodup
  hu : X.A.units + 65 < cLine
  room : Room (k + 2) X.A
  tk : Takes X (fun c d _ H => E c d H)
  blt : ∀ f : Str, f ∈ ([("len" : Str), "list", "tuple", "sum", "min", "max", "int", "any", "all", "sorted", "isinstance", "range", "zip", "enumerate", "reversed", "str", "bool", "set", "dict"] : List Str) → X.mg f = none
  fns : ∀ f n g, Γ f = some (n, g) → ∃ fa fd ps, FnOk X.prog X.w X.K X.mg X.base (L2.CX X.prog X.w) k fa fd ps (spG X.mg n g) ∧ X.mg f = some (.ref fa) ∧ PySem.W.keepIn X.K (.ref fa) = true ∧ Binds X.K fd ps []

/-! ### readings -/
section
variable (Γ : FT) (E : XK) (mg : Str → Option Value)
def tE (m : ME) : TE := fun σ H Q => ∃ H0 M0 M env, EnvOk H0 M0 H M σ env ∧ Rp E mg H (evE Γ env m) fun r => ∀ v H', Same H H' → RvOk H0 M H H' v r → Q v H'
def tT (m : ME) : TT := fun σ H Q => ∃ H0 M0 M env, EnvOk H0 M0 H M σ env ∧ Rp E mg H ((evE Γ env m).bind truth) fun b => ∀ H', Same H H' → Q b H'
inductive RvOks (H0 : Hp) (M : AS) (Hs H : Hp) : List V → List Rv → Prop
  | nil : RvOks H0 M Hs H [] []
  | cons {v : V} {vs : List V} {r : Rv} {rs : List Rv} : RvOk H0 M Hs H v r → RvOks H0 M Hs H vs rs → RvOks H0 M Hs H (v :: vs) (r :: rs)
def tEs (ms : MEs) : TA := fun σ H Q => ∃ H0 M0 M env, EnvOk H0 M0 H M σ env ∧ Rp E mg H (evEs Γ env ms) fun rs => ∀ vs H', Same H H' → RvOks H0 M H H' vs rs → Q vs H'
def tO (m : MO) : TO := fun σ H Q => ∃ H0 M0 M env, EnvOk H0 M0 H M σ env ∧ Rp E mg H (evO Γ env m) fun o => ∀ H', Same H H' → Q o H'
def tC (m : MO) : TT := fun σ H Q => ∃ H0 M0 M env, EnvOk H0 M0 H M σ env ∧ Rp E mg H (evC Γ env m) fun b => ∀ H', Same H H' → Q b H'
end
theorem RvOks.length {H0 : Hp} {M : AS} {Hs H : Hp} {vs : List V} {rs : List Rv} (h : RvOks H0 M Hs H vs rs) : vs.length = rs.length := by
  induction h with
  | nil => rfl
  | cons _ _ ih => rw [List.length_cons, List.length_cons, ih]
theorem anyM_mem {rs : List Rv} {r : Rv} (h : r ∈ rs) (e : r.m = true) : anyM rs = true := by
  induction rs with
  | nil => simp at h
  | cons a t ih =>
    unfold anyM
    rcases List.mem_cons.mp h with h | h
    · subst h; simp [e]
    · simp [ih h]
theorem RvOks.cns {H0 : Hp} {M : AS} {Hs H : Hp} {m : Bool} : ∀ {vs : List V} {rs : List Rv}, RvOks H0 M Hs H vs rs → (∀ r ∈ rs, r.m = true → m = true) → Cns H (Lm H0 M m) vs (rs.map Rv.d)
  | _, _, .nil, _ => .nil
  | _, _, .cons a t, h => .cons (a.cn.wk fun _ q => q.le (h _ List.mem_cons_self)) (t.cns fun r hr => h r (List.mem_cons_of_mem _ hr))
theorem RvOks.stos {H0 : Hp} {M : AS} {Hs H : Hp} : ∀ {vs : List V} {rs : List Rv} {p : Bool × List D}, RvOks H0 M Hs H vs rs → En.stos rs = .ok p → Dts H (Lm H0 M p.1) vs p.2
  | _, _, _, .nil, e => by cases e; exact .nil
  | _, _, _, .cons (r := r) (rs := rs) a t, e => by
    unfold En.stos at e
    cases e1 : En.sto r with
    | bad => rw [e1] at e; cases e
    | err x => rw [e1] at e; cases e
    | ok q =>
      cases e2 : En.stos rs with
      | bad => rw [e1, e2] at e; cases e
      | err x => rw [e1, e2] at e; cases e
      | ok u =>
        rw [e1, e2] at e
        cases e
        exact .cons ((a.sto e1).wk fun _ q => q.orl) ((t.stos e2).wk fun _ q => q.orr)

/-! ### walks over data -/
def Kp (H1 : Hp) (L : AS) (H : Hp) (L2 : AS) : Prop := (∀ a u, L a → H1 a = some u → H a = some u ∧ L2 a) ∧ ∀ a xs, Rd H1 a (.tup xs) → Rd H a (.tup xs)
theorem Kp.dt {H1 H : Hp} {L L2 : AS} (k : Kp H1 L H L2) {v : V} {d : D} (h : Dt H1 L v d) : Dt H L2 v d := Dt.go k.1 k.2 d v h
theorem Kp.rd {H1 H : Hp} {L L2 : AS} (k : Kp H1 L H L2) {a : Addr} {xs : List V} (l : L a) (h : Rd H1 a (.lst xs)) : Rd H a (.lst xs) := h.elim (fun e => .inl (k.1 _ _ l e).1) fun ⟨o, e⟩ => .inr ⟨o, (k.1 _ _ l e).1⟩
def Wk (H1 : Hp) (L : AS) (J : It) (ds : List D) : Prop := ∃ (G : Hp → Prop) (Y : Nat → Hp → V → Hp → Prop), Walk J ds.length G Y ∧ (∀ H L2, Kp H1 L H L2 → G H) ∧
  ∀ i H x H' d L2, Kp H1 L H L2 → Y i H x H' → ds[i]? = some d → Same H H' ∧ Dt H' L2 x d
theorem wk_list {K : PySem.W.Frag} {H1 : Hp} {L : AS} {a : Addr} {xs : List V} {ds : List D} (r : Rd H1 a (.lst xs)) (l : L a) (s : Dts H1 L xs ds) : Wk H1 L (Itl K a) ds := by
  refine ⟨_, _, by rw [← s.length]; exact walk_list (K := K) (a := a) (xs := xs), fun H L2 k => Or.inl (k.rd l r), fun i H x H' d L2 k y e => ?_⟩
  obtain ⟨rfl, y⟩ := y
  obtain ⟨v, e1, t⟩ := s.get e
  rw [y] at e1
  cases e1
  exact ⟨Same.refl _, k.dt t⟩
theorem wk_tup {K : PySem.W.Frag} {H1 : Hp} {L : AS} {a : Addr} {xs : List V} {ds : List D} (r : Rd H1 a (.tup xs)) (s : Dts H1 L xs ds) : Wk H1 L (Itt K a) ds := by
  refine ⟨_, _, by rw [← s.length]; exact walk_tup (K := K) (a := a) (xs := xs), fun H L2 k => Or.inl (k.2 _ _ r), fun i H x H' d L2 k y e => ?_⟩
  obtain ⟨rfl, y⟩ := y
  obtain ⟨v, e1, t⟩ := s.get e
  rw [y] at e1
  cases e1
  exact ⟨Same.refl _, k.dt t⟩
theorem wk_str {H1 : Hp} {L : AS} (z : Str) : Wk H1 L (Its z) (z.cps.toList.map fun c => .str ⟨#[c]⟩) := by
  refine ⟨_, _, by rw [List.length_map, Array.length_toList]; exact walk_str (z := z), fun H L2 k => trivial, fun i H x H' d L2 k y e => ?_⟩
  obtain ⟨rfl, c, hc, rfl⟩ := y
  rw [List.getElem?_map, show z.cps.toList[i]? = z.cps[i]? by simp, hc] at e
  cases e
  exact ⟨Same.refl _, .str _⟩
theorem wk_rng {H1 : Hp} {L : AS} (a : Int) (n : Nat) : Wk H1 L (Itr a n) (rngD a n) := by
  refine ⟨_, _, by unfold rngD; rw [List.length_map, List.length_range]; exact walk_range (lo := a) (n := n), fun H L2 k => trivial, fun i H x H' d L2 k y e => ?_⟩
  obtain ⟨rfl, rfl⟩ := y
  unfold rngD at e
  rw [List.getElem?_map] at e
  by_cases hi : i < n
  · rw [List.getElem?_range hi] at e
    cases e
    exact ⟨Same.refl _, .int _⟩
  · rw [List.getElem?_eq_none (by simpa using hi)] at e
    cases e
theorem wk_rngC {H1 : Hp} {L : AS} (a c : Int) (n : Nat) : Wk H1 L (Itc a c n) (rngC a c n) := by
  refine ⟨_, _, by unfold rngC; rw [List.length_map, List.length_range]; exact walk_rangeC (lo := a) (c := c) (n := n), fun H L2 k => trivial, fun i H x H' d L2 k y e => ?_⟩
  obtain ⟨rfl, rfl⟩ := y
  unfold rngC at e
  rw [List.getElem?_map] at e
  by_cases hi : i < n
  · rw [List.getElem?_range hi] at e
    cases e
    exact ⟨Same.refl _, .int _⟩
  · rw [List.getElem?_eq_none (by simpa using hi)] at e
    cases e
theorem wk_rev {K : PySem.W.Frag} {H1 : Hp} {L : AS} {a : Addr} {xs : List V} {ds : List D} (r : Rd H1 a (.lst xs)) (l : L a) (s : Dts H1 L xs ds) : Wk H1 L (Itv K a xs.length) ds.reverse := by
  refine ⟨_, _, by rw [List.length_reverse, ← s.length]; exact walk_rev (K := K) (a := a) (xs := xs), fun H L2 k => Or.inl (k.rd l r), fun i H x H' d L2 k y e => ?_⟩
  obtain ⟨rfl, y⟩ := y
  have hi : i < ds.length := by
    have := (List.getElem?_eq_some_iff.mp e).1
    rwa [List.length_reverse] at this
  rw [List.getElem?_reverse hi] at e
  obtain ⟨v, e1, t⟩ := s.get e
  rw [s.length] at y
  rw [y] at e1
  cases e1
  exact ⟨Same.refl _, k.dt t⟩
/-- data as a source -/
theorem src_cn {H1 : Hp} {L : AS} {x : V} {d : D} {ds : List D} (h : Cn H1 L x d) (hl : ∀ a, x = .ref a → (∃ l, d = .list l) → L a) (e : itemsOf d = some ds) : ∃ xs G, SrcOf x xs G ∧ Dts H1 L xs ds ∧ G H1 ∧ ∀ H L2, Kp H1 L H L2 → G H := by
  cases h <;> simp only [itemsOf, reduceCtorEq] at e
  · rename_i z
    cases e
    refine ⟨_, _, srcOf_str z, ?_, trivial, fun _ _ _ => trivial⟩
    unfold signsV
    generalize z.cps.toList = l
    induction l with
    | nil => exact .nil
    | cons c l ih => exact .cons (.str _) ih
  · rename_i r s
    cases e
    exact ⟨_, _, srcOf_list _ _, s, r, fun H L2 k => k.rd (hl _ rfl ⟨_, rfl⟩) r⟩
  · rename_i r s
    cases e
    exact ⟨_, _, srcOf_tup _ _, s, r, fun H L2 k => k.2 _ _ r⟩
theorem wk_z2 {H1 : Hp} {L : AS} {xs ys : List V} {ds es : List D} {G1 G2 : Hp → Prop} (s1 : Dts H1 L xs ds) (s2 : Dts H1 L ys es) (k1 : ∀ H L2, Kp H1 L H L2 → G1 H) (k2 : ∀ H L2, Kp H1 L H L2 → G2 H) :
    Wk H1 L (Jz2 xs ys G1 G2) (List.zipWith (fun d e => .tuple [d, e]) ds es) := by
  refine ⟨fun H => G1 H ∧ G2 H, fun i H v H' => ∃ T x y, v = .ref T ∧ H T = none ∧ H' = upd H T (.tup [x, y]) ∧ xs[i]? = some x ∧ ys[i]? = some y, ⟨fun i H hi g => ?_, fun H g => ?_, fun i H x H' hi g y => y⟩, fun H L2 k => ⟨k1 H L2 k, k2 H L2 k⟩, fun i H x H' d L2 k y e => ?_⟩
  · rw [List.length_zipWith] at hi
    exact ⟨by rw [s1.length]; omega, by rw [s2.length]; omega, g.1, g.2⟩
  · rw [List.length_zipWith]
    have e1 := s1.length
    have e2 := s2.length
    refine ⟨by omega, by omega, by omega, g.1, g.2⟩
  · obtain ⟨T, u, v, rfl, hT, rfl, hu, hv⟩ := y
    obtain ⟨d1, e1, t1⟩ := s1.getV hu
    obtain ⟨d2, e2, t2⟩ := s2.getV hv
    rw [List.getElem?_zipWith, e1, e2] at e
    cases e
    have sm : Same H (upd H T (.tup [u, v])) := same_new hT
    exact ⟨sm, .tup (.inl upd_same) (.cons (sm_dt sm (k.dt t1)) (.cons (sm_dt sm (k.dt t2)) .nil))⟩
theorem wk_z3 {H1 : Hp} {L : AS} {xs ys zs : List V} {ds es fs : List D} {G1 G2 G3 : Hp → Prop} (s1 : Dts H1 L xs ds) (s2 : Dts H1 L ys es) (s3 : Dts H1 L zs fs) (k1 : ∀ H L2, Kp H1 L H L2 → G1 H) (k2 : ∀ H L2, Kp H1 L H L2 → G2 H) (k3 : ∀ H L2, Kp H1 L H L2 → G3 H) :
    Wk H1 L (Jz3 xs ys zs G1 G2 G3) (List.zipWith (fun d p => match p with | (e, f) => .tuple [d, e, f]) ds (es.zip fs)) := by
  refine ⟨fun H => G1 H ∧ G2 H ∧ G3 H, fun i H v H' => ∃ T x y z, v = .ref T ∧ H T = none ∧ H' = upd H T (.tup [x, y, z]) ∧ xs[i]? = some x ∧ ys[i]? = some y ∧ zs[i]? = some z, ⟨fun i H hi g => ?_, fun H g => ?_, fun i H x H' hi g y => y⟩, fun H L2 k => ⟨k1 H L2 k, k2 H L2 k, k3 H L2 k⟩, fun i H x H' d L2 k y e => ?_⟩
  · rw [List.length_zipWith, List.length_zip] at hi
    exact ⟨by rw [s1.length]; omega, by rw [s2.length]; omega, by rw [s3.length]; omega, g.1, g.2.1, g.2.2⟩
  · rw [List.length_zipWith, List.length_zip]
    have e1 := s1.length
    have e2 := s2.length
    have e3 := s3.length
    refine ⟨by omega, by omega, by omega, by omega, g.1, g.2.1, g.2.2⟩
  · obtain ⟨T, u, v, w, rfl, hT, rfl, hu, hv, hw⟩ := y
    obtain ⟨d1, e1, t1⟩ := s1.getV hu
    obtain ⟨d2, e2, t2⟩ := s2.getV hv
    obtain ⟨d3, e3, t3⟩ := s3.getV hw
    have e4 : (es.zip fs)[i]? = some (d2, d3) := PyProof.Rows.zip_get e2 e3
    rw [List.getElem?_zipWith, e1, e4] at e
    cases e
    have sm : Same H (upd H T (.tup [u, v, w])) := same_new hT
    exact ⟨sm, .tup (.inl upd_same) (.cons (sm_dt sm (k.dt t1)) (.cons (sm_dt sm (k.dt t2)) (.cons (sm_dt sm (k.dt t3)) .nil)))⟩
theorem enumD_get : ∀ (ds : List D) (k i : Nat), (enumD k ds)[i]? = ds[i]?.map fun d => .tuple [.int ((k + i : Nat) : Int), d]
  | [], _, _ => by simp [enumD]
  | d :: ds, k, 0 => by simp [enumD]
  | d :: ds, k, i + 1 => by
    simp only [enumD, List.getElem?_cons_succ]
    rw [enumD_get ds (k + 1) i]
    congr 1
    funext d
    rw [show k + 1 + i = k + (i + 1) by omega]
theorem enumD_length : ∀ (ds : List D) (k : Nat), (enumD k ds).length = ds.length
  | [], _ => rfl
  | d :: ds, k => by simp [enumD, enumD_length ds]
theorem wk_en {H1 : Hp} {L : AS} {xs : List V} {ds : List D} {G1 : Hp → Prop} (s1 : Dts H1 L xs ds) (k1 : ∀ H L2, Kp H1 L H L2 → G1 H) : Wk H1 L (Jen xs G1) (enumD 0 ds) := by
  refine ⟨G1, fun i H v H' => ∃ T x, v = .ref T ∧ H T = none ∧ H' = upd H T (.tup [.int (i : Nat), x]) ∧ xs[i]? = some x, ⟨fun i H hi g => ?_, fun H g => ?_, fun i H x H' hi g y => y⟩, k1, fun i H x H' d L2 k y e => ?_⟩
  · rw [enumD_length] at hi
    exact ⟨by rw [s1.length]; exact hi, g⟩
  · rw [enumD_length]
    exact ⟨s1.length.symm, g⟩
  · obtain ⟨T, u, rfl, hT, rfl, hu⟩ := y
    obtain ⟨d1, e1, t1⟩ := s1.getV hu
    rw [enumD_get, e1] at e
    simp only [Option.map_some, Option.some.injEq, Nat.zero_add] at e
    subst e
    have sm : Same H (upd H T (.tup [.int (i : Nat), u])) := same_new hT
    exact ⟨sm, .tup (.inl upd_same) (.cons (.int _) (.cons (sm_dt sm (k.dt t1)) .nil))⟩

/-! ### iterables, by their rules -/
section
variable {X : Cx} {tg : Expr}
theorem pi_val {e : Expr} {te : TE} (he : PE X e te) : PI X tg e (fun σ H R => te σ H fun x H1 => (∃ a xs, x = .ref a ∧ SqL X.K H1 a xs ∧ R (Itl X.K a) H1) ∨ (∃ a xs, x = .ref a ∧ SqT X.K H1 a xs ∧ R (Itt X.K a) H1) ∨ ∃ z, x = .str z ∧ R (Its z) H1) := by
  refine ⟨fun pins s σ H R I h => ?_⟩
  refine thn (he.run pins s σ H _ I h) fun v s1 ⟨x, H1, I1, r1, q1⟩ => ?_
  rcases q1 with ⟨a, xs, rfl, hq, q⟩ | ⟨a, xs, rfl, hq, q⟩ | ⟨z, rfl, q⟩
  · cases r1
    obtain ⟨its, rv, p, hz⟩ := I1.list hq
    refine wpAny_pyIter_list p.isList ?_
    exact pi_one (tk := s1.toks) I1 _ (turn_list a _) ⟨_, Heap.get?_push_size _ rfl, rfl, rfl⟩ q
  · cases r1
    obtain ⟨its, rv, p, hz⟩ := I1.tuple hq
    refine wpAny_pyIter_tuple (show s1.heap.IsTuple a its.toArray from p) ?_
    exact pi_one (tk := s1.toks) I1 _ (turn_tuple a _) ⟨_, Heap.get?_push_size _ rfl, rfl, rfl⟩ q
  · obtain ⟨t, rfl⟩ := r1
    cases ha : z.cps.all (· < 128)
    · exact wpAny_pyIter_wide ha (pi_one (tk := s1.toks) I1 _ (turn_str _ z t "str_iterator" (.inr rfl)) ⟨_, Heap.get?_push_size _ rfl, rfl, rfl⟩ q)
    · exact wpAny_pyIter_ascii ha (pi_one (tk := s1.toks) I1 _ (turn_str _ z t "str_ascii_iterator" (.inl rfl)) ⟨_, Heap.get?_push_size _ rfl, rfl, rfl⟩ q)
theorem fresh_fp {pins : List (Addr × Obj)} {σ : L2.St} {H : Hp} {s : Shared} (I : Inv X pins σ H s) {b : Addr} (h : s.heap.objs.size ≤ b) : FpOk X pins H b := I.fpOk h (I.hok.fresh h)
theorem pi_z2 {e e2 : Expr} {ta : TA} {p pos tpos : Pos} {elts : List Expr} {kk : Nat} (hg : Gl X "zip") (hm : X.mg "zip" = none) (ha : PA X [e, e2] ta)
    (hs : starEach [e, e2] X.env = (false, eval e X.env) :: starEach [e2] X.env) (hpl : (backTo pos (starEach [e2] X.env)).any (·.1) = false) :
    PI X (.Tuple elts kk tpos) (.Call (.Name "zip" p) [e, e2] [] pos) (fun σ H R => ta σ H fun vs H1 => ∃ x y xs ys G1 G2, vs = [x, y] ∧ SrcOf x xs G1 ∧ SrcOf y ys G2 ∧ G1 H1 ∧ G2 H1 ∧ R (Jz2 xs ys G1 G2) H1) := by
  refine ⟨fun pins s σ H R I h => ?_⟩
  refine Call_ (ld_blt I hg hm PyProof.Rows.boot_zip (PyProof.Rows.callWith_type1 (thn (ha.run pos pins s σ H _ I h) fun us s1 ⟨vs, H1, I1, r1, q1⟩ => ?_) hs hpl))
  obtain ⟨x, y, xs, ys, G1, G2, rfl, S1, S2, g1, g2, q⟩ := q1
  obtain ⟨u1, u2, rfl, ru1, ru2⟩ := vals2 r1
  obtain ⟨o1, c1, Os1, B1⟩ := S1 u1 ru1
  obtain ⟨o2, c2, Os2, B2⟩ := S2 u2 ru2
  obtain ⟨lt1, ⟨b1, bg1, bh1⟩, _⟩ := B1.now I1 g1
  obtain ⟨lt2, ⟨b2, bg2, bh2⟩, _⟩ := B2.now I1 g2
  refine zip_begins2 bg1 bg2 bh1 bh2 fun h' hz hTI hTO e1 e2 hsz hk => wpAny_pyIter_zip hz ?_
  have I2 : Inv X pins σ H1 { s1 with heap := h' } := I1.kept (t' := s1.toks) hk
  have n1 : s1.heap.objs.size ∉ c1 := fun q => absurd (lt1 _ q) (Nat.lt_irrefl _)
  have n2 : s1.heap.objs.size + 1 ∉ c2 := fun q => absurd (lt2 _ q) (by
    intro hh
    have : (s1.heap.objs.size : Nat) + 1 < s1.heap.objs.size := hh
    omega)
  refine ⟨s1.heap.objs.size + 4, [s1.heap.objs.size + 4, s1.heap.objs.size + 2, s1.heap.objs.size + 3, s1.heap.objs.size, s1.heap.objs.size + 1], _, _, H1, rfl, I2, turn_z2 B1 B2 (zip_sep2 lt1 lt2) n1 n2, ⟨hz, hTI, ⟨_, _, hTO⟩, B1.at0 _ _ e1, B2.at0 _ _ e2⟩, fun c hcm => ?_, q⟩
  refine fresh_fp I1 ?_
  have e' : c = s1.heap.objs.size + 4 ∨ c = s1.heap.objs.size + 2 ∨ c = s1.heap.objs.size + 3 ∨ c = s1.heap.objs.size ∨ c = s1.heap.objs.size + 1 := by simpa using hcm
  rcases e' with z | z | z | z | z
  · rw [z]; exact Nat.le_add_right _ _
  · rw [z]; exact Nat.le_add_right _ _
  · rw [z]; exact Nat.le_add_right _ _
  · rw [z]; exact Nat.le_refl _
  · rw [z]; exact Nat.le_add_right _ _
theorem pi_z3 {e e2 e3 : Expr} {ta : TA} {p pos tpos : Pos} {elts : List Expr} {kk : Nat} (hg : Gl X "zip") (hm : X.mg "zip" = none) (ha : PA X [e, e2, e3] ta)
    (hs : starEach [e, e2, e3] X.env = (false, eval e X.env) :: starEach [e2, e3] X.env) (hpl : (backTo pos (starEach [e2, e3] X.env)).any (·.1) = false) :
    PI X (.Tuple elts kk tpos) (.Call (.Name "zip" p) [e, e2, e3] [] pos) (fun σ H R => ta σ H fun vs H1 => ∃ x y z xs ys zs G1 G2 G3, vs = [x, y, z] ∧ SrcOf x xs G1 ∧ SrcOf y ys G2 ∧ SrcOf z zs G3 ∧ G1 H1 ∧ G2 H1 ∧ G3 H1 ∧ R (Jz3 xs ys zs G1 G2 G3) H1) := by
  refine ⟨fun pins s σ H R I h => ?_⟩
  refine Call_ (ld_blt I hg hm PyProof.Rows.boot_zip (PyProof.Rows.callWith_type1 (thn (ha.run pos pins s σ H _ I h) fun us s1 ⟨vs, H1, I1, r1, q1⟩ => ?_) hs hpl))
  obtain ⟨x, y, z, xs, ys, zs, G1, G2, G3, rfl, S1, S2, S3, g1, g2, g3, q⟩ := q1
  cases r1 with | cons ru1 r1 => cases r1 with | cons ru2 r1 => cases r1 with | cons ru3 r1 => cases r1 with | nil =>
  obtain ⟨o1, c1, Os1, B1⟩ := S1 _ ru1
  obtain ⟨o2, c2, Os2, B2⟩ := S2 _ ru2
  obtain ⟨o3, c3, Os3, B3⟩ := S3 _ ru3
  obtain ⟨lt1, ⟨b1, bg1, bh1⟩, _⟩ := B1.now I1 g1
  obtain ⟨lt2, ⟨b2, bg2, bh2⟩, _⟩ := B2.now I1 g2
  obtain ⟨lt3, ⟨b3, bg3, bh3⟩, _⟩ := B3.now I1 g3
  refine zip_begins3 bg1 bg2 bg3 bh1 bh2 bh3 fun h' hz hTI hTO e1 e2 e3 hsz hk => wpAny_pyIter_zip hz ?_
  have I2 : Inv X pins σ H1 { s1 with heap := h' } := I1.kept (t' := s1.toks) hk
  have n1 : s1.heap.objs.size ∉ c1 := fun q => absurd (lt1 _ q) (Nat.lt_irrefl _)
  have n2 : s1.heap.objs.size + 1 ∉ c2 := fun q => absurd (lt2 _ q) (by
    intro hh
    have : (s1.heap.objs.size : Nat) + 1 < s1.heap.objs.size := hh
    omega)
  have n3 : s1.heap.objs.size + 2 ∉ c3 := fun q => absurd (lt3 _ q) (by
    intro hh
    have : (s1.heap.objs.size : Nat) + 2 < s1.heap.objs.size := hh
    omega)
  refine ⟨s1.heap.objs.size + 5, [s1.heap.objs.size + 5, s1.heap.objs.size + 3, s1.heap.objs.size + 4, s1.heap.objs.size, s1.heap.objs.size + 1, s1.heap.objs.size + 2], _, _, H1, rfl, I2, turn_z3 B1 B2 B3 (zip_sep3 lt1 lt2 lt3) n1 n2 n3, ⟨hz, hTI, ⟨_, _, _, hTO⟩, B1.at0 _ _ e1, B2.at0 _ _ e2, B3.at0 _ _ e3⟩, fun c hcm => ?_, q⟩
  refine fresh_fp I1 ?_
  have e' : c = s1.heap.objs.size + 5 ∨ c = s1.heap.objs.size + 3 ∨ c = s1.heap.objs.size + 4 ∨ c = s1.heap.objs.size ∨ c = s1.heap.objs.size + 1 ∨ c = s1.heap.objs.size + 2 := by simpa using hcm
  rcases e' with z | z | z | z | z | z
  · rw [z]; exact Nat.le_add_right _ _
  · rw [z]; exact Nat.le_add_right _ _
  · rw [z]; exact Nat.le_add_right _ _
  · rw [z]; exact Nat.le_refl _
  · rw [z]; exact Nat.le_add_right _ _
  · rw [z]; exact Nat.le_add_right _ _
theorem pi_en {e : Expr} {ta : TA} {p pos tpos : Pos} {elts : List Expr} {kk : Nat} (hg : Gl X "enumerate") (hm : X.mg "enumerate" = none) (ha : PA X [e] ta) (hs : starEach [e] X.env = (false, eval e X.env) :: starEach [] X.env) :
    PI X (.Tuple elts kk tpos) (.Call (.Name "enumerate" p) [e] [] pos) (fun σ H R => ta σ H fun vs H1 => (∃ a xs, vs = [.ref a] ∧ Rd H1 a (.lst xs) ∧ R (Jen xs fun H => Rd H a (.lst xs)) H1) ∨ ∃ z, vs = [.str z] ∧ R (Jen (signsV z) fun _ => True) H1) := by
  refine ⟨fun pins s σ H R I h => ?_⟩
  refine Call_ (ld_blt I hg hm boot_enumerate (PyProof.Rows.callWith_type1 (thn (ha.run pos pins s σ H _ I h) fun us s1 ⟨vs, H1, I1, r1, q1⟩ => ?_) hs rfl))
  have fp : ∀ b, b ∈ [s1.heap.objs.size + 1, s1.heap.objs.size] → FpOk X pins H1 b := fun b hb => by
    have e' : b = s1.heap.objs.size + 1 ∨ b = s1.heap.objs.size := by simpa using hb
    refine fresh_fp I1 ?_
    rcases e' with z | z
    · rw [z]; exact Nat.le_add_right _ _
    · rw [z]; exact Nat.le_refl _
  rcases q1 with ⟨a, xs, rfl, hq, q⟩ | ⟨z, rfl, q⟩
  · obtain ⟨u, rfl, ru⟩ := vals1 r1
    cases ru
    obtain ⟨its, rv, p', hz⟩ := I1.list (.inl hq)
    refine call_enumerate_list p'.isList fun h' he hit hsz hk => wpAny_pyIter_enum he ?_
    have I2 : Inv X pins σ H1 { s1 with heap := h' } := I1.kept (t' := s1.toks) hk
    have ha : s1.heap.objs.size ∉ [a] := fun q => by
      have e : s1.heap.objs.size = a := by simpa using q
      exact absurd p'.lt (by rw [← e]; exact Nat.lt_irrefl _)
    have ha1 : s1.heap.objs.size + 1 ∉ [a] := fun q => by
      have e : s1.heap.objs.size + 1 = a := by simpa using q
      have := p'.lt
      rw [← e] at this
      exact absurd this (by
        intro hh
        have : (s1.heap.objs.size : Nat) + 1 < s1.heap.objs.size := hh
        omega)
    exact ⟨s1.heap.objs.size + 1, [s1.heap.objs.size + 1, s1.heap.objs.size], _, _, H1, rfl, I2, turn_en (src_list a xs) ha (Nat.succ_ne_self _) ha1, ⟨⟨_, he⟩, hit⟩, fp, q⟩
  · obtain ⟨u, rfl, ru⟩ := vals1 r1
    obtain ⟨t, rfl⟩ := ru
    refine call_enumerate_str fun h' he hit hsz hk => wpAny_pyIter_enum he ?_
    have I2 : Inv X pins σ H1 { s1 with heap := h' } := I1.kept (t' := s1.toks) hk
    exact ⟨s1.heap.objs.size + 1, [s1.heap.objs.size + 1, s1.heap.objs.size], _, _, H1, rfl, I2, turn_en (src_str z t) (by simp) (Nat.succ_ne_self _) (by simp), ⟨⟨_, he⟩, hit⟩, fp, q⟩
end
end En

set_option Elab.async false
set_option linter.all false
set_option maxRecDepth 100000
set_option maxHeartbeats 4000000
/-! list(reversed(x)), x a list -/
namespace RT
open PySem PySem.Spec PyProof.Rows L2
section
variable {prog : Program} {w : World} {A : Around} {E : Value → Shared → Prop} {s : Shared}
theorem extend_rev {R : Result → Shared → Prop} {it l S : Addr} {items : Array Value} (hh : A.handled = none) (hit : s.heap.IsRevIter it l ((items.size : Int) - 1)) (hl : s.heap.IsList l items) (hne : l ≠ it) (hn : items.size ≤ sizeLine)
    (hSi : S ≠ it) (hSl : S ≠ l) (res : Value) (c₀ : Nat) (hS : s.heap.get? S = some { cls := .type "list", data := .seq #[] c₀ })
    (hR : ∀ h' tk acc' c', (∀ b o, b ≠ it → b ≠ S → s.heap.get? b = some o → h'.get? b = some o) → h'.get? S = some { cls := .type "list", dict := none, data := .seq acc' c', slots := #[] } →
      ItemsOf (fun i v => items[items.size - 1 - i]? = some v) acc' items.size → R (.ok (.ret res)) { s with heap := h', toks := tk }) :
    wpAny (model prog w) A.in1 (Builtin.List.listExtendWith (.ref S) (.ref it) res)
      (fun fin s' => match fin with | .done f => R (.ok f) s' | .again c' => c'.quiet = true ∧ codeAny (model prog w) A c' R s') (fun e s' => R (.error e) s') s := by
  have W := (Walks.listRev (prog := prog) (w := w) (A := A.in1) hh it l hne items).toS
  have hSf : S ∉ [it, l] := by simp only [List.mem_cons, List.not_mem_nil, or_false, not_or]; exact ⟨hSi, hSl⟩
  have hT : s.TypeIs (.ref it) "list_reverseiterator" := Heap.IsRevIter.typeIs hit
  have h1 : Builtin.List.listSameRef (.ref S) (.ref it) = false := by simp [Builtin.List.listSameRef, hSi]
  unfold Builtin.List.listExtendWith
  refine wpAny_bind (wpAny_typeOf hT ?_)
  rw [if_neg (by rw [h1]; decide)]
  refine wpAny_bind (wpAny_pyIter_revIter hit ?_)
  refine wpAny_bind (wpAny_holding ?_)
  unfold Builtin.List.listLengthHint
  refine wpAny_bind (wpAny_specialOf hT nolen_lri ?_)
  show wpAny _ A.in1 (specialOf (Value.ref it) (Str.ofString "__length_hint__") >>= _) _ _ _
  refine wpAny_bind (wpAny_specialOf hT hint_lri ?_)
  generalize hid : ("list_reverseiterator.__length_hint__" : String) = id0
  wp_delta
  rw [show splitId id0 = some ("list_reverseiterator", "__length_hint__") from by subst hid; decide +kernel]
  subst hid
  refine wpAny_bind (wpAny_isInstance (b := true) hT (by rw [isSubtype_type]; kernel_rfl) ?_)
  refine wpAny_pure ?_
  rw [if_neg (by decide)]
  have e0 : ((items.size : Nat) : Int) - 1 - ((0 : Nat) : Int) = (items.size : Int) - 1 := by omega
  refine wpAny_pure ⟨plainId_quiet F.plain_extend_loop _, codeAny_extend_loopS W hn _ hSf _ items.size 0 _ _ _ rfl (Nat.zero_le _) ⟨Nat.zero_le _, by rw [e0]; exact hit, hl⟩ hS (ItemsOf.nil _) fun s' acc' c' hm hS' hacc => ?_⟩
  rw [Moved.eq_with hm]
  refine hR s'.heap s'.toks acc' c' (fun b o hb hb2 e => hm.heap b o (fun hmem => ?_) e) hS' hacc
  rcases List.mem_cons.mp hmem with e' | hmem
  · exact hb2 e'
  · exact hb (List.mem_singleton.mp hmem)
theorem list_init_rev {R : Result → Shared → Prop} {it l S : Addr} {items : Array Value} (hh : A.handled = none) (hit : s.heap.IsRevIter it l ((items.size : Int) - 1)) (hl : s.heap.IsList l items) (hne : l ≠ it) (hn : items.size ≤ sizeLine)
    (hSi : S ≠ it) (hSl : S ≠ l) (hS : s.heap.get? S = some { cls := .type "list", data := .seq #[] })
    (hR : ∀ h' tk acc' c', (∀ b o, b ≠ it → b ≠ S → s.heap.get? b = some o → h'.get? b = some o) → h'.get? S = some { cls := .type "list", dict := none, data := .seq acc' c', slots := #[] } →
      ItemsOf (fun i v => items[items.size - 1 - i]? = some v) acc' items.size → R (.ok (.ret .none)) { s with heap := h', toks := tk }) :
    wpAny (model prog w) A.in1 (Builtin.«list.__init__» ⟨[.ref S, .ref it], []⟩)
      (fun fin s' => match fin with | .done f => R (.ok f) s' | .again c' => c'.quiet = true ∧ codeAny (model prog w) A c' R s') (fun e s' => R (.error e) s') s := by
  show wpAny _ _ (do let old ← Builtin.List.listItems (.ref S); Builtin.List.listUpdate (.ref S) (fun _ => #[]); letGo old.toList.reverse; Builtin.List.listExtendWith (.ref S) (.ref it) .none) _ _ s
  refine wpAny_bind ?_
  unfold Builtin.List.listItems
  refine wpAny_bind (wpAny_seqItems hS rfl (wpAny_pure ?_))
  show wpAny _ _ (updateSeq S (fun _ => #[]) >>= fun _ => letGo (#[] : Array Value).toList.reverse >>= fun _ => Builtin.List.listExtendWith (.ref S) (.ref it) .none) _ _ s
  refine wpAny_bind (wpAny_updateSeq hS rfl ?_)
  have hS₂ := Heap.get?_update_self (Obj.mapSeq (fun _ => (#[] : Array Value))) hS rfl
  have oth : ∀ b o, b ≠ S → s.heap.get? b = some o → (s.heap.update S (Obj.mapSeq (fun _ => (#[] : Array Value)))).get? b = some o :=
    fun b o hb e => (Heap.get?_update_other _ _ (Ne.symm hb)).trans e
  obtain ⟨ol, hol, hcl⟩ := id hl
  have hl2 : (s.heap.update S (Obj.mapSeq (fun _ => (#[] : Array Value)))).IsList l items := ⟨ol, oth l ol (Ne.symm hSl) hol, hcl⟩
  have hit2 : (s.heap.update S (Obj.mapSeq (fun _ => (#[] : Array Value)))).IsRevIter it l ((items.size : Int) - 1) := hit.at fun o e => oth it o (Ne.symm hSi) e
  refine wpAny_bind (wpAny_letGo ?_)
  refine extend_rev (s := { s with heap := s.heap.update S (Obj.mapSeq (fun _ => (#[] : Array Value))) }) hh hit2 hl2 hne hn hSi hSl .none _ hS₂ fun h' tk acc' c' hk hS' hacc => ?_
  exact hR h' tk acc' c' (fun b o hb hb2 e => hk b o hb hb2 (oth b o hb2 e)) hS' hacc
theorem call_list_rev {it l : Addr} {items : Array Value} {Q : Value → Shared → Prop} (hh : A.handled = none) (hit : s.heap.IsRevIter it l ((items.size : Int) - 1)) (hl : s.heap.IsList l items) (hne : l ≠ it) (hn : items.size ≤ sizeLine)
    (hQ : ∀ h' tk acc' c', (∀ b o, b ≠ it → s.heap.get? b = some o → h'.get? b = some o) →
      h'.get? s.heap.objs.size = some { cls := .type "list", dict := none, data := .seq acc' c', slots := #[] } → ItemsOf (fun i v => items[items.size - 1 - i]? = some v) acc' items.size → Q (.ref s.heap.objs.size) { s with heap := h', toks := tk }) :
    wpAny (model prog w) A (call (.type "list") [.ref it]) Q E s := by
  refine callType_codes (Q₁ := fun obj s₁ => obj = .ref s.heap.objs.size ∧ s₁ = { s with heap := s.heap.push { cls := .type "list", data := .seq #[] } }) F.called_list (F.typeCall_list_1 _) F.entry_list_init
    (code_list_new _ ⟨rfl, rfl⟩) fun obj s₁ h₁ => ?_
  obtain ⟨rfl, rfl⟩ := h₁
  have hS : (s.heap.push { cls := .type "list", data := .seq #[] }).get? s.heap.objs.size = some { cls := .type "list", data := .seq #[] } := Heap.get?_push_size _ rfl
  obtain ⟨oi, hoi, _⟩ := id hit
  obtain ⟨ol, hol, _⟩ := id hl
  refine ⟨⟨_, hS, rfl⟩, F.args_list_init_2 _ _, list_init_rev (A := A.in1) hh (hit.at fun o e => Heap.get?_push_of_some _ e) (hl.push _) hne hn (Nat.ne_of_gt (Heap.lt_size hoi)) (Nat.ne_of_gt (Heap.lt_size hol)) hS fun h' tk acc' c' hk hS' hacc => ?_⟩
  exact ⟨rfl, hQ h' tk acc' c' (fun b o hb e => hk b o hb (Nat.ne_of_lt (Heap.lt_size e)) (Heap.get?_push_of_some _ e)) hS' hacc⟩
end
end RT
namespace L2
open PySem PySem.Spec PyProof.Rows RT
def tLstRev (K : PySem.W.Frag) (te : TE) : TE := fun σ H Q => te σ H fun v H1 => ∃ (a : Addr) (xs : List V), v = .ref a ∧ SqL K H1 a xs ∧ ∀ q, H1 q = none → Q (.ref q) (upd H1 q (.lst xs.reverse))
section
variable {X : Cx}
theorem pe_lstRev {e : Expr} {te : TE} {p p2 pos pos2 : Pos} (hc : X.calm = true) (hg : Gl X "list") (hm : X.mg "list" = none) (hg2 : Gl X "reversed") (hm2 : X.mg "reversed" = none) (he : PE X e te)
    (hs : starEach [e] X.env = (false, eval e X.env) :: starEach [] X.env)
    (hs2 : starEach [.Call (.Name "reversed" p2) [e] [] pos2] X.env = (false, eval (.Call (.Name "reversed" p2) [e] [] pos2) X.env) :: starEach [] X.env) :
    PE X (.Call (.Name "list" p) [.Call (.Name "reversed" p2) [e] [] pos2] [] pos) (tLstRev X.K te) := by
  refine ⟨fun pins s σ H Q I h => ?_⟩
  refine Call_ (ld_blt I hg hm boot_list (PyProof.Rows.callWith_type1 (args_cons (Call_ (ld_blt I hg2 hm2 PyProof.Rows.boot_reversed (PyProof.Rows.callWith_type1 (args_cons (thn (he.run pins s σ H _ I h) fun u s1 ⟨v, H1, I1, r1, q1⟩ => args_nil ?_) hs) hs rfl))) hs2) hs2 rfl))
  obtain ⟨a, xs, ev, hq, q⟩ := q1
  subst ev
  obtain rfl : u = Value.ref a := r1
  obtain ⟨its, rv, p', hz⟩ := I1.list hq
  refine call_reversed_list p'.isList (args_nil ?_)
  have k0 : ∀ b o, s1.heap.get? b = some o → (s1.heap.push (revObj a ((its.toArray.size : Int) - 1))).get? b = some o := fun b o e => Heap.get?_push_of_some _ e
  have I2 : Inv X pins σ H1 { s1 with heap := s1.heap.push (revObj a ((its.toArray.size : Int) - 1)) } := I1.kept (t' := s1.toks) k0
  obtain ⟨f0, f1, f2, f3, f4, f5⟩ := I1.fpOk (H' := H1) (b := s1.heap.objs.size) (Nat.le_refl _) (I1.hok.fresh (Nat.le_refl _))
  have hl := p'.isList
  obtain ⟨ol, hol, _⟩ := id hl
  have hne : a ≠ s1.heap.objs.size := Nat.ne_of_lt (Heap.lt_size hol)
  have hn : its.toArray.size ≤ sizeLine := by rw [List.size_toArray, ← rv.length]; exact hz
  refine call_list_rev (s := { s1 with heap := s1.heap.push (revObj a ((its.toArray.size : Int) - 1)) }) (I1.ok.hd hc) ⟨_, Heap.get?_push_size _ rfl, rfl, rfl⟩ (hl.push _) hne hn fun h' tk acc c' hk hS hi => ?_
  have hfr : H1 (s1.heap.push (revObj a ((its.toArray.size : Int) - 1))).objs.size = none := I2.hok.fresh (Nat.le_refl _)
  have I3 : Inv X pins σ (upd H1 (s1.heap.push (revObj a ((its.toArray.size : Int) - 1))).objs.size (.lst xs.reverse)) { s1 with heap := h', toks := tk } := by
    refine I2.turnedNew (ch := [s1.heap.objs.size]) (fun b o hb e => hk b o (fun z => hb (by simp [z])) e) (fun b hb => ?_) (Nat.le_refl _) (show ObjOk X.prog X.w _ _ _ (.lst xs.reverse) from ⟨by rw [List.length_reverse]; exact hz, acc.toList, c', vals_rev rv hi, ?_⟩)
    · obtain rfl := List.mem_singleton.mp hb
      exact I1.fpOk (Nat.le_refl _) (I1.hok.fresh (Nat.le_refl _))
    · rw [Array.toArray_toList]
      exact hS
  exact ⟨.ref _, _, I3, rfl, q _ hfr⟩
end
end L2

set_option Elab.async false
set_option linter.all false
set_option maxRecDepth 100000
set_option maxHeartbeats 4000000
namespace En
open PySem PySem.Spec PyProof.Rows L2

/-! ### the written program against the text -/
def kL : Option NameKind → Bool
  | some .local => true
  | some .cell => true
  | _ => false
def slotOk (N : List Str) (sc : Scope) (i : Nat) (x : Str) : Bool :=
  decide (N[i]? = some x) && (kL (sc.names.lookup x) || decide (sc.names.lookup x = some .free)) && !(x == "__debug__") && !(x == "__classdict__")
def glOk (sc : Scope) (x : Str) : Bool := decide (sc.names.lookup x = some .globalImplicit) && !(x == "__debug__")
def tgOk (N : List Str) (sc : Scope) (i : Nat) : Expr → Bool
  | .Name x _ => decide (N[i]? = some x) && kL (sc.names.lookup x)
  | _ => false
def tgsOk (N : List Str) (sc : Scope) : List Nat → List Expr → Bool
  | [], [] => true
  | i :: l, e :: es => tgOk N sc i e && tgsOk N sc l es
  | _, _ => false
def okG (N : List Str) (sc : Scope) : MG → Expr → Bool
  | .n i, e => tgOk N sc i e
  | .t l, .Tuple es _ _ => tgsOk N sc l es
  | _, _ => false
def isTup : Expr → Bool
  | .Tuple _ _ _ => true
  | _ => false
def idx : MG → List Nat
  | .n i => [i]
  | .t l => l
def ownOf (N : List Str) (g : MG) : List (Str × Nat) := (idx g).map fun i => (N.getD i "", i)
mutual
def okE (N : List Str) (sc : Scope) : ME → Expr → Bool
  | .v i, e => match e with | .Name x _ => slotOk N sc i x | _ => false
  | .kn, e => match e with | .Constant .none _ _ => true | _ => false
  | .kb b, e => match e with | .Constant (.bool c) _ _ => decide (b = c) | _ => false
  | .ki i, e => match e with | .Constant (.int j) _ _ => decide (i = j) | _ => false
  | .ks s, e => match e with | .Constant (.str x) _ _ => decide (s = x) | _ => false
  | .lst ms, e => match e with | .List es _ => okEs N sc ms es | _ => false
  | .tup ms, e => match e with | .Tuple es _ _ => okEs N sc ms es | _ => false
  | .dK0, e => match e with | .Dict [] [] _ => true | _ => false
  | .bin op a b, e => match e with | .BinOp x op' y _ => decide (op = op') && okE N sc a x && okE N sc b y | _ => false
  | .neg a, e => match e with | .UnaryOp .USub x _ => okE N sc a x | _ => false
  | .cmp op a b, e => match e with | .Compare x [op'] [y] _ => decide (op = op') && !(behindInMarks op' y) && okE N sc a x && okE N sc b y | _ => false
  | .chn op op2 a b c, e => match e with | .Compare x [o1, o2] [y, z] _ => decide (op = o1) && decide (op2 = o2) && !(lastMarks [o1, o2] [y, z]) && okE N sc a x && okE N sc b y && okE N sc c z | _ => false
  | .bop con ms, e => match e with
    | .BoolOp .And es _ => con && okEs N sc ms es
    | .BoolOp .Or es _ => !con && okEs N sc ms es
    | _ => false
  | .not_ a, e => match e with | .UnaryOp .Not x _ => okE N sc a x | _ => false
  | .ite c a b, e => match e with | .IfExp x y z _ => okE N sc c x && okE N sc a y && okE N sc b z | _ => false
  | .ix a i, e => match e with | .Subscript x y _ => okE N sc a x && okE N sc i y | _ => false
  | .sl a lo hi, e => match e with | .Subscript x (.Slice l h none _) _ => okE N sc a x && okO N sc lo l && okO N sc hi h | _ => false
  | .bi f ms, e => match e with | .Call (.Name g _) (x :: es) [] _ => decide (f = g) && glOk sc g && (biV f).isSome && okEs N sc ms (x :: es) | _ => false
  | .isi a T, e => match e with | .Call (.Name g _) [x, .Name T' _] [] _ => decide (g = "isinstance") && glOk sc g && decide (T = T') && glOk sc T' && (decide (T = "str") || decide (T = "bool") || decide (T = "int") || decide (T = "list") || decide (T = "tuple")) && okE N sc a x | _ => false
  | .mt o f ms, e => match e with | .Call (.Attribute x f' ap) (y :: es) [] cp => decide (f = f') && (decide (f = "join") || decide (f = "startswith") || decide (f = "count")) && (ap.endLine == cp.line) && decide (es.length < 20) && okE N sc o x && okEs N sc ms (y :: es) | _ => false
  | .call f ms, e => match e with | .Call (.Name g _) (x :: es) [] _ => decide (f = g) && glOk sc g && okEs N sc ms (x :: es) | _ => false
  | .lc g it c elt, e => match e with | .ListComp x [⟨tg, iter, ifs, 0⟩] scope _ => blkC N sc scope (ownOf N g) && okG N scope g tg && okI N sc it tg iter && okC N (relS scope sc) c ifs && okE N (relS scope sc) elt x | _ => false
  | .lr a b, e => match e with
    | .Call (.Name l _) [.Call (.Name r _) [x] [] _] [] _ => decide (l = "list") && glOk sc l && decide (r = "range") && glOk sc r && okO N sc a (some x) && okO N sc b none
    | .Call (.Name l _) [.Call (.Name r _) [x, y] [] _] [] _ => decide (l = "list") && glOk sc l && decide (r = "range") && glOk sc r && okO N sc a (some x) && okO N sc b (some y)
    | _ => false
  | .rep _ _ _, _ => false
  | .dgt i k d, e => match e with | .Call (.Attribute (.Name x _) m ap) [y, z] [] cp => slotOk N sc i x && decide (m = "get") && (ap.endLine == cp.line) && okE N sc k y && okE N sc d z | _ => false
  | .lix a b, e => match e with | .Call (.Attribute x m ap) [y] [] cp => decide (m = "index") && (ap.endLine == cp.line) && okE N sc a x && okE N sc b y | _ => false
  | .srk a f, e => match e with | .Call (.Name l _) [x] [⟨some y, .Name g _, _⟩] _ => decide (l = "sorted") && glOk sc l && decide (y = Str.ofString "key") && decide (f = g) && glOk sc g && okE N sc a x | _ => false
  | .rvl a, e => match e with | .Call (.Name l _) [.Call (.Name r _) [x] [] _] [] _ => decide (l = "list") && glOk sc l && decide (r = "reversed") && glOk sc r && okE N sc a x | _ => false
def okEs (N : List Str) (sc : Scope) : MEs → List Expr → Bool
  | .nil, es => match es with | [] => true | _ => false
  | .cons m ms, es => match es with | e :: r => okE N sc m e && okEs N sc ms r | _ => false
def okO (N : List Str) (sc : Scope) : MO → Option Expr → Bool
  | .no, o => match o with | none => true | _ => false
  | .so m, o => match o with | some e => okE N sc m e | _ => false
def okC (N : List Str) (sc : Scope) : MO → List Expr → Bool
  | .no, o => match o with | [] => true | _ => false
  | .so m, o => match o with | [e] => okE N sc m e | _ => false
def okI (N : List Str) (sc : Scope) : MI → Expr → Expr → Bool
  | .e a, _, e => okE N sc a e
  | .r1 a, _, e => match e with | .Call (.Name r _) [x] [] _ => decide (r = "range") && glOk sc r && okE N sc a x | _ => false
  | .r2 a b, _, e => match e with | .Call (.Name r _) [x, y] [] _ => decide (r = "range") && glOk sc r && okE N sc a x && okE N sc b y | _ => false
  | .r3 a b c, _, e => match e with | .Call (.Name r _) [x, y, z] [] _ => decide (r = "range") && glOk sc r && okE N sc a x && okE N sc b y && okE N sc c z | _ => false
  | .zip a b, tg, e => match e with | .Call (.Name r _) [x, y] [] _ => decide (r = "zip") && isTup tg && glOk sc r && okE N sc a x && okE N sc b y | _ => false
  | .zip3 a b c, tg, e => match e with | .Call (.Name r _) [x, y, z] [] _ => decide (r = "zip") && isTup tg && glOk sc r && okE N sc a x && okE N sc b y && okE N sc c z | _ => false
  | .enum a, tg, e => match e with | .Call (.Name r _) [x] [] _ => decide (r = "enumerate") && isTup tg && glOk sc r && okE N sc a x | _ => false
  | .rev a, _, e => match e with | .Call (.Name r _) [x] [] _ => decide (r = "reversed") && glOk sc r && okE N sc a x | _ => false
end
/-! ### shapes -/
theorem ok_star {N : List Str} {sc : Scope} {m : ME} {a : Expr} {p : Pos} : okE N sc m (.Starred a p) = false := by cases m <;> rfl
theorem ok_slice {N : List Str} {sc : Scope} {m : ME} {a b c : Option Expr} {p : Pos} : okE N sc m (.Slice a b c p) = false := by cases m <;> rfl
theorem ok_set {N : List Str} {sc : Scope} {m : ME} {a : List Expr} {k : Nat} {p : Pos} : okE N sc m (.Set a k p) = false := by cases m <;> rfl
theorem star_cons {N : List Str} {sc : Scope} {m : ME} {e : Expr} (h : okE N sc m e = true) (es : List Expr) (env : Env) : starEach (e :: es) env = (false, eval e env) :: starEach es env := by
  cases e with
  | Starred a p => rw [ok_star] at h; cases h
  | _ => rfl
theorem star_none {N : List Str} {sc : Scope} {env : Env} : ∀ {ms : MEs} {es : List Expr}, okEs N sc ms es = true → (starEach es env).any (·.1) = false
  | .nil, es, h => by
    cases es with
    | nil => rfl
    | cons e r => simp [okEs] at h
  | .cons m ms, es, h => by
    cases es with
    | nil => simp [okEs] at h
    | cons e r =>
      simp only [okEs, Bool.and_eq_true] at h
      rw [star_cons h.1, List.any_cons, star_none h.2]
      rfl
theorem back_any (pos : Pos) (l : List (Bool × Sem Value)) (h : l.any (·.1) = false) : (backTo pos l).any (·.1) = false := by
  unfold backTo
  rw [List.any_map]
  exact h
theorem back_all (pos : Pos) (l : List (Bool × Sem Value)) (h : l.any (·.1) = false) : (backTo pos l).all (fun x => !x.1) = true := by
  unfold backTo
  rw [List.all_map]
  rw [List.any_eq_false] at h
  rw [List.all_eq_true]
  intro x hx
  have := h x hx
  show (!x.1) = true
  simpa using this
theorem plain_ix {N : List Str} {sc : Scope} {m : ME} {e : Expr} (h : okE N sc m e = true) : PlainIx e := by
  intro o i
  cases e with
  | Slice a b c p => rw [ok_slice] at h; cases h
  | _ => rfl
/-! ### from a reading to another -/
end En
namespace L2
open PySem PySem.Spec PyProof.Rows
section
variable {X : Cx}
theorem PE.imp {e : Expr} {t t' : TE} (h : PE X e t) (i : ∀ σ H Q, t' σ H Q → t σ H Q) : PE X e t' := ⟨fun pins s σ H Q I q => h.run pins s σ H Q I (i σ H Q q)⟩
theorem PT.imp {e : Expr} {t t' : TT} (h : PT X e t) (i : ∀ σ H Q, t' σ H Q → t σ H Q) : PT X e t' := ⟨fun pins s σ H Q I q => h.run pins s σ H Q I (i σ H Q q)⟩
theorem PW.imp {e : Expr} {t t' : TT} (h : PW X e t) (i : ∀ σ H Q, t' σ H Q → t σ H Q) : PW X e t' := ⟨fun w pins s σ H Q I q => h.run w pins s σ H Q I (i σ H Q q)⟩
theorem PA.imp {e : List Expr} {t t' : TA} (h : PA X e t) (i : ∀ σ H Q, t' σ H Q → t σ H Q) : PA X e t' := ⟨fun p pins s σ H Q I q => h.run p pins s σ H Q I (i σ H Q q)⟩
theorem PS.imp {st : Stmt} {t t' : TS} (h : PS X st t) (i : ∀ D σ H, t' D σ H → t D σ H) : PS X st t' := ⟨fun pins s σ H D I q => h.run pins s σ H D I (i D σ H q)⟩
theorem PSs.imp {st : List Stmt} {t t' : TS} (h : PSs X st t) (i : ∀ D σ H, t' D σ H → t D σ H) : PSs X st t' := ⟨fun pins s σ H D I q => h.run pins s σ H D I (i D σ H q)⟩
theorem PI.imp {tg e : Expr} {t t' : TI} (h : PI X tg e t) (i : ∀ σ H Q, t' σ H Q → t σ H Q) : PI X tg e t' := ⟨fun pins s σ H Q I q => h.run pins s σ H Q I (i σ H Q q)⟩
theorem PO.imp {e : Option Expr} {t t' : TO} (h : PO X e t) (i : ∀ σ H Q, t' σ H Q → t σ H Q) : PO X e t' := by
  cases h with
  | mk run => exact ⟨fun pins s σ H Q I q => run pins s σ H Q I (i σ H Q q)⟩
end
end L2
namespace En
open PySem PySem.Spec PyProof.Rows L2
theorem truth_bl {H0 : Hp} {M : AS} {Hs H : Hp} {v : V} {r : Rv} {b : Bool} (h : RvOk H0 M Hs H v r) (e : truth r = .ok b) : v = .bl b := by
  unfold truth at e
  split at e
  · cases e
    cases h
    rfl
  · cases e
section
variable {X : Cx} {Γ : FT} {E : XK} {k : Nat}
theorem pt_of {m : ME} {e : Expr} (h : PE X e (tE Γ E X.mg m)) (he : ∀ whole, isTrue e X.env whole = (do let v ← whole; standAt e.pos; holding [v] (truthy v))) : PT X e (tT Γ E X.mg m) :=
  PT.imp (pt_val h he) fun σ H Q ⟨H0, M0, M, env, ok, q⟩ => ⟨H0, M0, M, env, ok, (Rp.bind q).imp fun r e1 hr v H' s rv => by
    cases e2 : truth r with
    | bad => rw [e2] at hr; exact hr.elim
    | err x =>
      cases r with
      | fr m d => cases d <;> simp [truth] at e2
      | ow m d => simp [truth] at e2
      | bo m d => simp [truth] at e2
    | ok b =>
      rw [e2] at hr
      exact ⟨b, truth_bl rv e2, hr H' s⟩⟩
/-- a value from a test's answer -/
theorem boot_bi {f : Str} {u : Value} (h : biV f = some u) : bootBuiltins f = some u ∧ f ≠ "__name__" ∧ (f == ("__debug__" : Str)) = false ∧ f ∈ ([("len" : Str), "list", "tuple", "sum", "min", "max", "int", "any", "all", "sorted", "isinstance", "range", "zip", "enumerate", "reversed", "str", "bool", "set", "dict"] : List Str) := by
  unfold biV at h
  repeat' (split at h)
  all_goals first
    | (rename_i e; subst e; cases h; exact ⟨by decide +kernel, by decide, by decide, by decide⟩)
    | exact nomatch h
theorem biV_ty {f : Str} {u : Value} (h : biV f = some u) : (∃ n, u = .builtin n) ∨ ∃ n, u = .type n := by
  unfold biV at h
  repeat' (split at h)
  all_goals first
    | (cases h; first | exact .inl ⟨_, rfl⟩ | exact .inr ⟨_, rfl⟩)
    | exact nomatch h
theorem gl_of {x : Str} (h : glOk X.env.scope x = true) : Gl X x ∧ (x == ("__debug__" : Str)) = false := by
  unfold glOk at h
  simp only [Bool.and_eq_true, decide_eq_true_eq, Bool.not_eq_true'] at h
  exact h
theorem pe_v {i : Nat} {x : Str} {pos : Pos} (h : slotOk X.N X.env.scope i x = true) : PE X (.Name x pos) (tVar i) := by
  unfold slotOk at h
  simp only [Bool.and_eq_true, Bool.or_eq_true, decide_eq_true_eq, Bool.not_eq_true'] at h
  obtain ⟨⟨⟨h1, h2⟩, h3⟩, h4⟩ := h
  refine pe_var h1 ?_ h3 h4
  rcases h2 with h2 | h2
  · unfold kL at h2
    split at h2
    · rename_i e; exact .inl e
    · rename_i e; exact .inr (.inl e)
    · cases h2
  · exact .inr (.inr h2)
end
end En

set_option Elab.async false
set_option linter.all false
set_option maxRecDepth 100000
set_option maxHeartbeats 4000000
namespace En
open PySem PySem.Spec PyProof.Rows L2

def tyN : D → String
  | .none => "NoneType"
  | .bool _ => "bool"
  | .int _ => "int"
  | .str _ => "str"
  | .list _ => "list"
  | .tuple _ => "tuple"
  | .dict _ => "dict"
theorem ty_cn {K : PySem.W.Frag} {H : Hp} {L : AS} {x : V} {d : D} (h : Cn H L x d) : TyX K H x (.type (tyN d)) := by
  cases h with
  | non => exact .base .non
  | bl b => exact .base (.bl b)
  | int i => exact .base (.int i)
  | str z => exact .base (.str z)
  | lst r s =>
    rcases r with r | ⟨o, r⟩
    · exact .base (.lst r)
    · exact .base (.frz r)
  | tup r s =>
    rcases r with r | ⟨o, r⟩
    · exact .base (.tup r)
    · exact .fTuple r
  | dK r e s => exact .base (.dK r)
def tyS (T : Str) : String := if T = "str" then "str" else if T = "bool" then "bool" else if T = "int" then "int" else if T = "list" then "list" else "tuple"
theorem isi_kit {K : PySem.W.Frag} {d : D} {T : Str} {b : Bool} (h : semIsi d T = some b) : PySem.W.kitOne K (.type (tyN d)) (.type (tyS T)) = some b := by
  unfold semIsi at h
  split at h
  · rename_i e
    rw [show tyS T = "str" from by rw [e]; decide +kernel]
    cases d <;> cases h <;> first
      | exact kit_ty (show kitB "NoneType" "str" = some false from by decide +kernel)
      | exact kit_ty (show kitB "bool" "str" = some false from by decide +kernel)
      | exact kit_ty (show kitB "int" "str" = some false from by decide +kernel)
      | exact kit_ty (show kitB "str" "str" = some true from by decide +kernel)
      | exact kit_ty (show kitB "list" "str" = some false from by decide +kernel)
      | exact kit_ty (show kitB "tuple" "str" = some false from by decide +kernel)
      | exact kit_ty (show kitB "dict" "str" = some false from by decide +kernel)
  split at h
  · rename_i e
    rw [show tyS T = "bool" from by rw [e]; decide +kernel]
    cases d <;> cases h <;> first
      | exact kit_ty (show kitB "NoneType" "bool" = some false from by decide +kernel)
      | exact kit_ty (show kitB "bool" "bool" = some true from by decide +kernel)
      | exact kit_ty (show kitB "int" "bool" = some false from by decide +kernel)
      | exact kit_ty (show kitB "str" "bool" = some false from by decide +kernel)
      | exact kit_ty (show kitB "list" "bool" = some false from by decide +kernel)
      | exact kit_ty (show kitB "tuple" "bool" = some false from by decide +kernel)
      | exact kit_ty (show kitB "dict" "bool" = some false from by decide +kernel)
  split at h
  · rename_i e
    rw [show tyS T = "int" from by rw [e]; decide +kernel]
    cases d <;> cases h <;> first
      | exact kit_ty (show kitB "NoneType" "int" = some false from by decide +kernel)
      | exact kit_ty (show kitB "bool" "int" = some true from by decide +kernel)
      | exact kit_ty (show kitB "int" "int" = some true from by decide +kernel)
      | exact kit_ty (show kitB "str" "int" = some false from by decide +kernel)
      | exact kit_ty (show kitB "list" "int" = some false from by decide +kernel)
      | exact kit_ty (show kitB "tuple" "int" = some false from by decide +kernel)
      | exact kit_ty (show kitB "dict" "int" = some false from by decide +kernel)
  split at h
  · rename_i e
    rw [show tyS T = "list" from by rw [e]; decide +kernel]
    cases d <;> cases h <;> first
      | exact kit_ty (show kitB "NoneType" "list" = some false from by decide +kernel)
      | exact kit_ty (show kitB "bool" "list" = some false from by decide +kernel)
      | exact kit_ty (show kitB "int" "list" = some false from by decide +kernel)
      | exact kit_ty (show kitB "str" "list" = some false from by decide +kernel)
      | exact kit_ty (show kitB "list" "list" = some true from by decide +kernel)
      | exact kit_ty (show kitB "tuple" "list" = some false from by decide +kernel)
      | exact kit_ty (show kitB "dict" "list" = some false from by decide +kernel)
  split at h
  · rename_i e
    rw [show tyS T = "tuple" from by rw [e]; decide +kernel]
    cases d <;> cases h <;> first
      | exact kit_ty (show kitB "NoneType" "tuple" = some false from by decide +kernel)
      | exact kit_ty (show kitB "bool" "tuple" = some false from by decide +kernel)
      | exact kit_ty (show kitB "int" "tuple" = some false from by decide +kernel)
      | exact kit_ty (show kitB "str" "tuple" = some false from by decide +kernel)
      | exact kit_ty (show kitB "list" "tuple" = some false from by decide +kernel)
      | exact kit_ty (show kitB "tuple" "tuple" = some true from by decide +kernel)
      | exact kit_ty (show kitB "dict" "tuple" = some false from by decide +kernel)
  · exact nomatch h
theorem boot_ty {T : Str} (h : (decide (T = "str") || decide (T = "bool") || decide (T = "int") || decide (T = "list") || decide (T = "tuple")) = true) :
    bootBuiltins T = some (.type (tyS T)) ∧ T ≠ "__name__" ∧ (T == ("__debug__" : Str)) = false ∧ T ∈ ([("len" : Str), "list", "tuple", "sum", "min", "max", "int", "any", "all", "sorted", "isinstance", "range", "zip", "enumerate", "reversed", "str", "bool", "set", "dict"] : List Str) := by
  simp only [Bool.or_eq_true, decide_eq_true_eq] at h
  rcases h with (((h | h) | h) | h) | h <;> subst h <;> exact ⟨by decide +kernel, by decide, by decide, by decide⟩
theorem starts_eq (z y : Str) : Txt.startswith z y = (z.cps.toList.take y.length == y.cps.toList) := by
  unfold Txt.startswith
  rw [PySem.StrLaws.subAt_eq, List.drop_zero, Nat.zero_add]
  by_cases h : y.length ≤ z.length
  · rw [decide_eq_true h, Bool.true_and]
  · rw [decide_eq_false h, Bool.false_and]
    symm
    rw [beq_eq_false_iff_ne]
    intro e
    have := congrArg List.length e
    rw [List.length_take] at this
    have h1 : z.cps.toList.length = z.length := by simp [Str.length]
    have h2 : y.cps.toList.length = y.length := by simp [Str.length]
    omega

section
variable {X : Cx} {Γ : FT} {E : XK} {k : Nat}
/-- a chain of two readings -/
theorem mt_ok_join : MtR X "str.join" (fun x xs H Q => ∃ L d ds nw z, Cn H L x d ∧ Cns H L xs ds ∧ m_join d ds = some (nw, z) ∧ ∀ v, Dt H Any v z → nw = false → Q v H) := by
  intro pins s σ H x xs v us Q I rx rs h
  obtain ⟨L, d, ds, nw, z, cx, cs, hf, q⟩ := h
  cases cx <;> try (simp only [m_join, reduceCtorEq] at hf)
  cases cs with
  | nil => simp [m_join] at hf
  | cons c cs =>
    cases cs with
    | cons _ _ => cases c <;> simp [m_join] at hf
    | nil =>
      cases c <;> simp only [m_join, reduceCtorEq] at hf
      rename_i r s1
      rename_i zz a ys l
      cases e : allO isStr l with
      | none => rw [e] at hf; exact nomatch hf
      | some ss =>
        rw [e] at hf
        simp only [Option.bind_some] at hf
        split at hf
        · rename_i hz
          cases hf
          have := strs_of s1 e
          subst this
          refine mt_join pins s σ H _ _ _ us Q I rx rs ⟨zz, a, ss, rfl, rfl, .inl (.inl r), ?_, ?_⟩
          · have := fits_le hz
            rw [sizeLine_eq] at this
            exact this
          · have e2 : (⟨(TL.joinL zz.cps.toList (ss.map TL.tl)).toArray⟩ : Str) = Txt.join zz ss := by
              rw [TL.join_eq]
              apply TL.ext_tl
              rw [TL.tl_join]
            rw [← e2]
            exact q _ (.str _) rfl
        · exact nomatch hf
theorem mt_ok_starts : MtR X "str.startswith" (fun x xs H Q => ∃ L d ds nw z, Cn H L x d ∧ Cns H L xs ds ∧ m_startswith d ds = some (nw, z) ∧ ∀ v, Dt H Any v z → nw = false → Q v H) := by
  intro pins s σ H x xs v us Q I rx rs h
  obtain ⟨L, d, ds, nw, z, cx, cs, hf, q⟩ := h
  cases cx <;> try (simp only [m_startswith, reduceCtorEq] at hf)
  cases cs with
  | nil => simp [m_startswith] at hf
  | cons c cs =>
    cases cs with
    | cons _ _ => cases c <;> simp [m_startswith] at hf
    | nil =>
      cases c <;> simp only [m_startswith, reduceCtorEq] at hf
      cases hf
      refine mt_startswith pins s σ H _ _ _ us Q I rx rs ⟨_, _, rfl, rfl, ?_⟩
      rw [starts_eq]
      exact q _ (.bl _) rfl
theorem mt_ok_count : MtR X "str.count" (fun x xs H Q => ∃ L d ds nw z, Cn H L x d ∧ Cns H L xs ds ∧ m_count d ds = some (nw, z) ∧ ∀ v, Dt H Any v z → nw = false → Q v H) := by
  intro pins s σ H x xs v us Q I rx rs h
  obtain ⟨L, d, ds, nw, z, cx, cs, hf, q⟩ := h
  cases cx <;> try (simp only [m_count, reduceCtorEq] at hf)
  cases cs with
  | nil => simp [m_count] at hf
  | cons c cs =>
    cases cs with
    | cons _ _ => cases c <;> simp [m_count] at hf
    | nil =>
      cases c <;> simp only [m_count, reduceCtorEq] at hf
      cases hf
      exact mt_count pins s σ H _ _ _ us Q I rx rs ⟨_, _, rfl, rfl, q _ (.int _) rfl⟩
theorem sc_count {d : D} {ds : List D} {nw : Bool} {z : D} (h : m_count d ds = some (nw, z)) : nw = false ∧ sc z = true := by
  unfold m_count at h
  split at h
  · cases h; exact ⟨rfl, rfl⟩
  · exact nomatch h
theorem sc_join {d : D} {ds : List D} {nw : Bool} {z : D} (h : m_join d ds = some (nw, z)) : nw = false ∧ sc z = true := by
  unfold m_join at h
  split at h
  · rename_i zz l
    cases e : allO isStr l with
    | none => rw [e] at h; exact nomatch h
    | some ss =>
      rw [e] at h
      simp only [Option.bind_some] at h
      split at h
      · cases h; exact ⟨rfl, rfl⟩
      · exact nomatch h
  · exact nomatch h
theorem sc_starts {d : D} {ds : List D} {nw : Bool} {z : D} (h : m_startswith d ds = some (nw, z)) : nw = false ∧ sc z = true := by
  unfold m_startswith at h
  split at h
  · cases h; exact ⟨rfl, rfl⟩
  · exact nomatch h
end
/-! ### the call -/
theorem RvOk.ans {H0 : Hp} {M0 : AS} {Hs H1 H' : Hp} {M Mc : AS} {σ : L2.St} {env : List Sl} {v : V} {r r' : Rv} {lent : Bool} (ok : EnvOk H0 M0 H1 M σ env) (s0 : Same Hs H1) (hM : lent = false → Mc = M) (h : RvOk H1 Mc H1 H' v r)
    (e : En.ans lent r = .ok r') : RvOk H0 M Hs H' v r' := by
  have low : ∀ a, Lm H1 Mc false a → Lm H0 M false a := fun a q => ⟨(ok.fresh (q.2 rfl)).1, fun _ => (ok.fresh (q.2 rfl)).2⟩
  have mid : ∀ {m : Bool}, (lent && m) = false → ∀ a, Lm H1 Mc m a → Lm H0 M m a := fun {m} hc a q => by
    cases m with
    | false => exact low a q
    | true =>
      have : lent = false := by simpa using hc
      rw [hM this] at q
      exact ⟨q.1, fun z => nomatch z⟩
  cases r with
  | fr m d =>
    simp only [En.ans] at e
    split at e
    · cases e
    · rename_i hc
      cases e
      have h : Dt H' (Lm H1 Mc m) v d := h
      show Dt H' (Lm H0 M (m && !imm d)) v d
      cases q : imm d with
      | true => exact Dt.imm d v q h
      | false =>
        rw [q] at hc
        have hc' : (lent && m) = false := by simpa using hc
        have := h.wk (mid hc')
        simpa using this
  | ow m d =>
    obtain ⟨a, rfl, h1, h2, h3, t⟩ := h
    have fin : ∀ {m' : Bool} {d' : D}, Ob H' (fun b => Lm H0 M m' b ∧ b ≠ a) a d' → RvOk H0 M Hs H' (.ref a) (.ow m' d') := fun t' => ⟨a, rfl, s0.free h1, (ok.fresh h1).1, (ok.fresh h1).2, t'⟩
    cases d with
    | list ds =>
      simp only [En.ans] at e
      split at e
      · cases e
      · rename_i hc
        cases e
        cases t with
        | lst q s =>
          refine fin (.lst q ?_)
          cases qi : imms ds with
          | true => exact Dts.imm ds _ qi s
          | false =>
            rw [qi] at hc
            have hc' : (lent && m) = false := by simpa using hc
            have := s.wk (L' := fun b => Lm H0 M m b ∧ b ≠ a) fun b q => ⟨mid hc' b q.1, q.2⟩
            simpa using this
    | _ =>
      simp only [En.ans] at e
      split at e
      · cases e
      · rename_i hc
        cases e
        exact fin (t.wk fun b q => ⟨mid (by simpa using hc) b q.1, q.2⟩)
  | bo m d => cases e
theorem args_ok {H0 : Hp} {M0 : AS} {Hs H1 : Hp} {M : AS} {σ : L2.St} {env : List Sl} {vs : List V} {rs : List Rv} (ok : EnvOk H0 M0 H1 M σ env) (h : RvOks H0 M Hs H1 vs rs) :
    ∃ Mc : AS, (∀ a, Mc a → M a) ∧ (rs.any isBo = false → Mc = M) ∧ Dts H1 (fun a => ¬ Mc a) vs (rs.map Rv.d) := by
  by_cases hb : rs.any isBo = false
  · refine ⟨M, fun _ q => q, fun _ => rfl, ?_⟩
    induction h with
    | nil => exact .nil
    | @cons v vs r rs h1 h2 ih =>
      rw [List.any_cons, Bool.or_eq_false_iff] at hb
      refine .cons ?_ (ih hb.2)
      cases r with
      | fr m d => exact Dt.wk (fun a q => q.1) h1
      | ow m d =>
        obtain ⟨a, rfl, _, h2, _, t⟩ := h1
        exact (t.wk (L' := fun a => ¬ M a) fun a q => q.1.1).dt h2
      | bo m d => simp [isBo] at hb
  · refine ⟨fun a => M a ∧ V.ref a ∉ vs, fun _ q => q.1, fun q => absurd q hb, ?_⟩
    have key : ∀ {ws : List V} {qs : List Rv}, RvOks H0 M Hs H1 ws qs → (∀ w ∈ ws, w ∈ vs) → Dts H1 (fun a => ¬ (M a ∧ V.ref a ∉ vs)) ws (qs.map Rv.d) := by
      intro ws qs hq
      induction hq with
      | nil => intro _; exact .nil
      | @cons v ws r qs h1 h2 ih =>
        intro hw
        refine .cons ?_ (ih fun w hm => hw w (List.mem_cons_of_mem _ hm))
        have hv : v ∈ vs := hw v List.mem_cons_self
        cases r with
        | fr m d => exact Dt.wk (fun a q z => q.1 z.1) h1
        | ow m d =>
          obtain ⟨a, rfl, _, h2, _, t⟩ := h1
          exact (t.wk (L' := fun a => ¬ (M a ∧ V.ref a ∉ vs)) fun a q z => q.1.1 z.1).dt fun z => h2 z.1
        | bo m d =>
          have h1 : Cn H1 (Lm H0 M m) v d := h1
          have c2 := h1.wk (L' := fun a => ¬ (M a ∧ V.ref a ∉ vs)) fun a q z => q.1 z.1
          show Dt _ _ v d
          cases c2 with
          | non => exact .non
          | bl b => exact .bl b
          | int i => exact .int i
          | str z => exact .str z
          | lst r s => exact .lst (fun z => z.2 hv) r s
          | tup r s => exact .tup r s
          | dK r e s => exact .dK (fun z => z.2 hv) r e s
    exact key h fun _ q => q
end En

set_option Elab.async false
set_option linter.all false
set_option maxRecDepth 100000
set_option maxHeartbeats 4000000
namespace En
open PySem PySem.Spec PyProof.Rows L2

/-! ### the block of a comprehension -/
theorem wipe_get {σ : L2.St} : ∀ {vs : List Nat} {i : Nat}, i ∉ vs → (wipe σ vs)[i]? = σ[i]?
  | [], _, _ => rfl
  | v :: vs, i, h => by
    simp only [List.mem_cons, not_or] at h
    unfold wipe
    rw [List.getElem?_set_ne (Ne.symm h.1)]
    exact wipe_get h.2
theorem wipe_in {σ : L2.St} : ∀ {vs : List Nat} {i : Nat}, i ∈ vs → i < σ.length → (wipe σ vs)[i]? = some none
  | v :: vs, i, h, hl => by
    unfold wipe
    by_cases e : v = i
    · subst e
      rw [List.getElem?_set_self (by rw [wipe_length]; exact hl)]
    · rw [List.getElem?_set_ne e]
      exact wipe_in (by simpa [Ne.symm e] using h) hl
theorem wipe_ext {σ τ : L2.St} {vs : List Nat} (hl : τ.length = σ.length) (h : ∀ i, i ∉ vs → τ[i]? = σ[i]?) : wipe τ vs = wipe σ vs := by
  apply List.ext_getElem?
  intro i
  by_cases hi : i ∈ vs
  · by_cases hlt : i < σ.length
    · rw [wipe_in hi hlt, wipe_in hi (by rw [hl]; exact hlt)]
    · rw [List.getElem?_eq_none (by rw [wipe_length]; omega), List.getElem?_eq_none (by rw [wipe_length]; omega)]
  · rw [wipe_get hi, wipe_get hi, h i hi]
/-- slots are changed to data -/
theorem EnvOk.ch {H0 : Hp} {M0 : AS} {H : Hp} {M : AS} {σ σ' : L2.St} {env env' : List Sl} (ok : EnvOk H0 M0 H M σ env) (l1 : σ'.length = env'.length)
    (h : ∀ (i : Nat) (s : Sl), env'[i]? = some s → (env[i]? = some s ∧ σ'[i]? = σ[i]?) ∨ ((∀ m d, s ≠ .ow m d) ∧ SlOk H0 H M (σ'[i]?) s)) : EnvOk H0 M0 H M σ' env' := by
  refine ⟨l1, ok.same, ok.m0, ok.dom, fun i s e => ?_, fun i j m d m' d' a e1 e2 s1 s2 => ?_⟩
  · rcases h i s e with ⟨q, r⟩ | ⟨_, q⟩
    · rw [r]; exact ok.sl i s q
    · exact q
  · rcases h i _ e1 with ⟨q1, r1⟩ | ⟨q1, _⟩
    · rcases h j _ e2 with ⟨q2, r2⟩ | ⟨q2, _⟩
      · exact ok.dis i j m d m' d' a q1 q2 (r1 ▸ s1) (r2 ▸ s2)
      · exact absurd rfl (q2 _ _)
    · exact absurd rfl (q1 _ _)
theorem EnvOk.set_fr {H0 : Hp} {M0 : AS} {H : Hp} {M : AS} {σ : L2.St} {env : List Sl} (ok : EnvOk H0 M0 H M σ env) {i : Nat} {v : V} {m : Bool} {d : D} (t : Dt H (Lm H0 M m) v d) (hi : i < env.length) : EnvOk H0 M0 H M (σ.set i (some v)) (env.set i (.fr m d)) := by
  refine ok.ch (by rw [List.length_set, List.length_set]; exact ok.len) fun j s e => ?_
  by_cases hj : i = j
  · subst hj
    rw [List.getElem?_set_self hi] at e
    cases e
    refine .inr ⟨fun _ _ q => (nomatch q), v, ?_, t⟩
    rw [List.getElem?_set_self (by rw [ok.len]; exact hi)]
  · rw [List.getElem?_set_ne hj] at e
    exact .inl ⟨e, List.getElem?_set_ne hj⟩
theorem EnvOk.wipe {H0 : Hp} {M0 : AS} {H : Hp} {M : AS} {σ : L2.St} {env : List Sl} (ok : EnvOk H0 M0 H M σ env) (vs : List Nat) : EnvOk H0 M0 H M (L2.wipe σ vs) (vs.foldr (fun i e => e.set i .no) env) := by
  induction vs with
  | nil => exact ok
  | cons v vs ih =>
    show EnvOk H0 M0 H M ((L2.wipe σ vs).set v none) ((vs.foldr (fun i e => e.set i .no) env).set v .no)
    refine ih.ch (by rw [List.length_set, List.length_set]; exact ih.len) fun j s e => ?_
    by_cases hj : v = j
    · subst hj
      have hv := (List.getElem?_eq_some_iff.mp e).1
      rw [List.length_set] at hv
      rw [List.getElem?_set_self hv] at e
      cases e
      exact .inr ⟨fun _ _ q => (nomatch q), trivial⟩
    · rw [List.getElem?_set_ne hj] at e
      exact .inl ⟨e, List.getElem?_set_ne hj⟩
/-- an unseen object is kept from the others -/
theorem EnvOk.add {H0 : Hp} {M0 : AS} {H H1 : Hp} {M : AS} {σ : L2.St} {env : List Sl} (ok : EnvOk H0 M0 H M σ env) {p : Addr} (hp : H p = none) (s : Same H H1) (hq : ∃ o, H1 p = some o ∧ Mut (some o)) : EnvOk H0 M0 H1 (fun a => M a ∨ a = p) σ env := by
  have key : ∀ {m : Bool}, ∀ a u, Lm H0 M m a → H a = some u → H1 a = some u ∧ Lm H0 (fun a => M a ∨ a = p) m a := fun {m} a u l e => ⟨s _ _ e, fun z => z.elim l.1 fun q => (by rw [q, hp] at e; cases e), l.2⟩
  refine ⟨ok.len, ok.same.trans s, fun a q => ⟨.inl (ok.m0 a q).1, (ok.m0 a q).2⟩, fun a q => ?_, fun i t e => ?_, ok.dis⟩
  · rcases q with q | q
    · obtain ⟨o, e, t⟩ := ok.dom a q
      exact ⟨o, s _ _ e, t⟩
    · rw [q]; exact hq
  · have h := ok.sl i t e
    cases t with
    | no => trivial
    | fr m d =>
      obtain ⟨v, q, t⟩ := h
      exact ⟨v, q, Dt.go key (fun _ _ r => sm_rd s r) _ _ t⟩
    | ow m d =>
      obtain ⟨a, q, x, y, t⟩ := h
      obtain ⟨o, q2, _⟩ := t.there
      exact ⟨a, q, .inl x, y, t.go ((s _ _ q2).trans q2.symm) key fun _ _ r => sm_rd s r⟩
    | pt v => exact h
    | kn v m d => exact ⟨h.1, Dt.go key (fun _ _ r => sm_rd s r) _ _ h.2⟩

/-! ### targets -/
def gSet (l : List Nat) : TGs := fun vs σ H Q => vs.length = l.length ∧ Q ((l.zip vs).foldl (fun s p => s.set p.1 (some p.2)) σ) H
section
variable {X : Cx}
/-- names of the def itself, or of the block -/
def FnIn (X : Cx) (sc : Scope) : Prop := ∀ x, (sc.names.lookup x = some .local → X.env.scope.names.lookup x = some .local) ∧ (sc.names.lookup x = some .cell → X.env.scope.names.lookup x = some .cell ∧ X.fn x = true)
theorem pg_ok {sc : Scope} {i : Nat} {e : Expr} (nd : X.N.Nodup) (f : FnIn X sc) (h : tgOk X.N sc i e = true) : PG X e (gName i) := by
  cases e with
  | Name x pos =>
    simp only [tgOk, Bool.and_eq_true, decide_eq_true_eq] at h
    obtain ⟨h1, h2⟩ := h
    unfold kL at h2
    split at h2
    · rename_i q
      exact pg_name nd h1 (.inl ((f x).1 q)) (.inr ((f x).1 q))
    · rename_i q
      exact pg_name nd h1 (.inr ((f x).2 q).1) (.inl ((f x).2 q).2)
    · cases h2
  | _ => cases h
theorem tgs_each {sc : Scope} {N : List Str} {env : Env} : ∀ {l : List Nat} {es : List Expr}, tgsOk N sc l es = true → (assignEach es env) = es.map (fun e => (false, assign e env)) ∧ es.length = l.length
  | [], [], _ => ⟨rfl, rfl⟩
  | i :: l, e :: es, h => by
    simp only [tgsOk, Bool.and_eq_true] at h
    obtain ⟨a, b⟩ := tgs_each (env := env) h.2
    cases e with
    | Name x pos => exact ⟨by show (false, assign (.Name x pos) env) :: assignEach es env = _; rw [a]; rfl, by rw [List.length_cons, List.length_cons, b]⟩
    | _ => simp [tgOk] at h
  | [], _ :: _, h => by simp [tgsOk] at h
  | _ :: _, [], h => by simp [tgsOk] at h
theorem pgs_ok {sc : Scope} (nd : X.N.Nodup) (f : FnIn X sc) : ∀ {l : List Nat} {es : List Expr}, tgsOk X.N sc l es = true → PGs X es (gSet l)
  | [], [], _ => ⟨fun pins s σ H vs us Q I r h => by
      obtain ⟨h1, h2⟩ := h
      cases vs with
      | nil => exact pgs_nil.run pins s σ H [] us Q I r ⟨rfl, h2⟩
      | cons _ _ => simp at h1⟩
  | i :: l, e :: es, h => by
    have ha := (tgs_each (env := X.env) h).1
    simp only [tgsOk, Bool.and_eq_true] at h
    have hb := (tgs_each (env := X.env) h.2).1
    have := pgs_cons (pg_ok nd f h.1) (pgs_ok nd f h.2) (by rw [ha, hb]; rfl)
    exact ⟨fun pins s σ H vs us Q I r hw => by
      obtain ⟨h1, h2⟩ := hw
      cases vs with
      | nil => simp at h1
      | cons v vs =>
        exact this.run pins s σ H (v :: vs) us Q I r ⟨v, vs, rfl, by simpa using h1, h2⟩⟩
  | [], _ :: _, h => by simp [tgsOk] at h
  | _ :: _, [], h => by simp [tgsOk] at h
/-- (a, b, ..) = a tuple or a list of that length -/
def gTL (K : PySem.W.Frag) (n : Nat) (t : TGs) : TG := fun v σ H Q => ∃ a xs, v = .ref a ∧ (SqT K H a xs ∨ SqL K H a xs) ∧ xs.length = n ∧ t xs σ H Q
theorem pg_tl {X : Cx} {pos : Pos} {es : List Expr} {k : Nat} {t : TGs} {n : Nat} (hc : X.calm = true) (h : PGs X es t)
    (hn : (assignEach es X.env).length = n) (hst : (assignEach es X.env).findIdx? (·.1) = none) : PG X (.Tuple es k pos) (gTL X.K n t) := by
  refine ⟨fun pins s σ H v u Q I r hw => ?_⟩
  obtain ⟨a, xs, e1, hq, hl, hw⟩ := hw
  rcases hq with hq | hq
  · exact (pg_tup (k := k) (pos := pos) hc h hn hst).run pins s σ H v u Q I r ⟨a, xs, e1, hq, hl, hw⟩
  · exact (pg_lst (k := k) (pos := pos) hc h hn hst).run pins s σ H v u Q I r ⟨a, xs, e1, hq, hl, hw⟩
/-- a target's reading -/
def gOf (X : Cx) : MG → TG
  | .n i => gName i
  | .t l => gTL X.K l.length (gSet l)
theorem g_ok {sc : Scope} {g : MG} {e : Expr} (nd : X.N.Nodup) (hc : X.calm = true) (f : FnIn X sc) (h : okG X.N sc g e = true) : PG X e (gOf X g) := by
  cases g with
  | n i => exact pg_ok nd f h
  | t l =>
    cases e with
    | Tuple es kk pos =>
      have h : tgsOk X.N sc l es = true := h
      have ha := tgs_each (env := X.env) h
      refine pg_tl hc (pgs_ok nd f h) (by rw [ha.1, List.length_map, ha.2]) ?_
      rw [ha.1]
      rw [List.findIdx?_eq_none_iff]
      intro x hx
      obtain ⟨e, _, rfl⟩ := List.mem_map.mp hx
      rfl
    | _ => cases h
end
theorem sets_get {vs : List V} {σ : L2.St} : ∀ {l : List Nat} {i : Nat}, i ∉ l → ((l.zip vs).foldl (fun s p => s.set p.1 (some p.2)) σ)[i]? = σ[i]? := by
  intro l
  induction l generalizing vs σ with
  | nil => intro i _; rfl
  | cons a l ih =>
    intro i h
    simp only [List.mem_cons, not_or] at h
    cases vs with
    | nil => rfl
    | cons v vs =>
      rw [List.zip_cons_cons, List.foldl_cons, ih h.2]
      exact List.getElem?_set_ne (Ne.symm h.1)
theorem sets_len {vs : List V} {σ : L2.St} : ∀ {l : List Nat}, ((l.zip vs).foldl (fun s p => s.set p.1 (some p.2)) σ).length = σ.length := by
  intro l
  induction l generalizing vs σ with
  | nil => rfl
  | cons a l ih =>
    cases vs with
    | nil => rfl
    | cons v vs => rw [List.zip_cons_cons, List.foldl_cons, ih, List.length_set]
theorem setAll_ok {H0 : Hp} {M0 : AS} {H : Hp} {M : AS} {m : Bool} : ∀ {l : List Nat} {ds : List D} {vs : List V} {σ : L2.St} {env env' : List Sl}, EnvOk H0 M0 H M σ env → Dts H (Lm H0 M m) vs ds → setAll m l ds env = .ok env' →
    vs.length = l.length ∧ EnvOk H0 M0 H M ((l.zip vs).foldl (fun s p => s.set p.1 (some p.2)) σ) env'
  | [], [], vs, σ, env, env', ok, t, e => by
    cases t
    cases e
    exact ⟨rfl, ok⟩
  | i :: l, d :: ds, vs, σ, env, env', ok, t, e => by
    obtain ⟨v, ws, rfl, t1, t2⟩ := t.cons_inv'
    unfold setAll at e
    split at e
    · rename_i hi
      obtain ⟨a, b⟩ := setAll_ok (ok.set_fr t1 hi) t2 e
      exact ⟨by rw [List.length_cons, List.length_cons, a], b⟩
    · cases e
  | [], _ :: _, _, _, _, _, _, _, e => by cases e
  | _ :: _, [], _, _, _, _, _, _, e => by cases e
/-- a target bound -/
theorem bind_ok {X : Cx} {H0 : Hp} {M0 : AS} {H : Hp} {M : AS} {m : Bool} {g : MG} {d : D} {x : V} {σ : L2.St} {env env' : List Sl} {Q : L2.St → Hp → Prop} (ok : EnvOk H0 M0 H M σ env) (t : Dt H (Lm H0 M m) x d) (e : bindG g m d env = .ok env')
    (q : ∀ σ', EnvOk H0 M0 H M σ' env' → (∀ i, i ∉ idx g → σ'[i]? = σ[i]?) → σ'.length = σ.length → Q σ' H) : gOf X g x σ H Q := by
  cases g with
  | n i =>
    simp only [bindG] at e
    split at e
    · rename_i hi
      cases e
      refine q _ (ok.set_fr t hi) (fun j hj => List.getElem?_set_ne fun z => hj (by simp [idx, z])) (by rw [List.length_set])
    · cases e
  | t l =>
    cases d <;> simp only [bindG, reduceCtorEq] at e
    rename_i ds
    cases t with
    | @tup a xs _ r s =>
      obtain ⟨h1, h2⟩ := setAll_ok ok s e
      exact ⟨a, xs, rfl, .inl (.inl r), h1, h1, q _ h2 (fun j hj => sets_get hj) sets_len⟩
theorem bind_wipe {m : Bool} {g : MG} {d : D} {env env' : List Sl} (e : bindG g m d env = .ok env') : bindG g m d ((idx g).foldr (fun i e => e.set i .no) env) = .ok env' := by
  cases g with
  | n i =>
    simp only [bindG, idx, List.foldr_cons, List.foldr_nil, List.length_set] at e ⊢
    split at e
    · rename_i hi
      cases e
      rw [if_pos hi, List.set_set]
    · cases e
  | t l =>
    cases d <;> simp only [bindG, idx, reduceCtorEq] at e ⊢
    rename_i ds
    have key : ∀ (l : List Nat) (ds : List D) (E1 E2 env' : List Sl), E1.length = E2.length → (∀ i, i ∉ l → E1[i]? = E2[i]?) → setAll m l ds E1 = .ok env' → setAll m l ds E2 = .ok env' := by
      intro l
      induction l with
      | nil =>
        intro ds E1 E2 env' hl h e
        cases ds with
        | nil =>
          cases e
          have : E1 = E2 := List.ext_getElem? fun i => h i (by simp)
          rw [this]; rfl
        | cons _ _ => cases e
      | cons i l ih =>
        intro ds E1 E2 env' hl h e
        cases ds with
        | nil => cases e
        | cons d ds =>
          unfold setAll at e ⊢
          split at e
          · rename_i hi
            rw [if_pos (by rw [← hl]; exact hi)]
            refine ih ds _ _ env' (by rw [List.length_set, List.length_set]; exact hl) (fun j hj => ?_) e
            by_cases hij : i = j
            · subst hij
              rw [List.getElem?_set_self hi, List.getElem?_set_self (by rw [← hl]; exact hi)]
            · rw [List.getElem?_set_ne hij, List.getElem?_set_ne hij]
              exact h j (by simp [Ne.symm hij, hj])
          · cases e
    have len : ∀ (l : List Nat), (l.foldr (fun i e => e.set i Sl.no) env).length = env.length := by
      intro l
      induction l with
      | nil => rfl
      | cons a l ih => rw [List.foldr_cons, List.length_set, ih]
    have get : ∀ (l : List Nat) (i : Nat), i ∉ l → (l.foldr (fun i e => e.set i Sl.no) env)[i]? = env[i]? := by
      intro l
      induction l with
      | nil => intro i _; rfl
      | cons a l ih =>
        intro i h
        simp only [List.mem_cons, not_or] at h
        rw [List.foldr_cons, List.getElem?_set_ne (Ne.symm h.1)]
        exact ih i h.2
    exact key l ds env _ env' (len l).symm (fun i hi => (get l i hi).symm) e
end En

set_option Elab.async false
set_option linter.all false
set_option maxRecDepth 100000
set_option maxHeartbeats 8000000
namespace En
open PySem PySem.Spec PyProof.Rows L2

theorem fnIn_blk {X : Cx} {s : Shared} {H : Hp} {scope : Scope} {cl : List (Str × Addr)} {C : Addr} {fp : List Addr} : FnIn (X.blk s H scope (compEnvC scope cl C X.env) fp) scope := fun x =>
  ⟨fun h => lookup_relS_keep (by decide) h, fun h => ⟨lookup_relS_keep (by decide) h, by show (scope.names.lookup x == some .cell) = true; rw [h]; rfl⟩⟩
theorem ok_blk {X : Cx} {Γ : FT} {E : XK} {k : Nat} (ok : Ok X Γ E k) {s : Shared} {H : Hp} {scope : Scope} {cl : List (Str × Addr)} {C : Addr} {fp : List Addr} : Ok (X.blk s H scope (compEnvC scope cl C X.env) fp) Γ (fun _ _ _ => False) k :=
  ⟨ok.calm, ok.nd, ok.hu, ok.room, takes0, ok.blt, ok.fns⟩
section
variable (Γ : FT) (E : XK) (mg : Str → Option Value)
def tBv (con : Bool) (ms : MEs) : TE := fun σ H Q => ∃ H0 M0 M env, EnvOk H0 M0 H M σ env ∧ Rp E mg H (evB Γ env con ms) fun b => ∀ H', Same H H' → Q (.bl b) H'
def tBt (con : Bool) (ms : MEs) : TT := fun σ H Q => ∃ H0 M0 M env, EnvOk H0 M0 H M σ env ∧ Rp E mg H (evB Γ env con ms) fun b => ∀ H', Same H H' → Q b H'
def tI (it : MI) : TI := fun σ H R => ∃ H0 M0 M env, EnvOk H0 M0 H M σ env ∧ Rp E mg H (evI Γ env it) fun p => ∀ J H', Same H H' → Wk H' (Lm H0 M p.1) J p.2 → R J H'
end
def bOp (con : Bool) : BoolOp := if con then .And else .Or
theorem stos_ne : ∀ (rs : List Rv) (x : Str), stos rs ≠ .err x
  | [], _ => by simp [stos]
  | r :: rs, x => by
    intro z
    unfold stos at z
    cases r with
    | bo m d => simp [sto, R.bind] at z
    | fr m d =>
      simp only [sto, R.bind] at z
      cases hz : stos rs with
      | bad => rw [hz] at z; cases z
      | err y => exact stos_ne rs y hz
      | ok y => rw [hz] at z; cases z
    | ow m d =>
      simp only [sto, R.bind] at z
      cases hz : stos rs with
      | bad => rw [hz] at z; cases z
      | err y => exact stos_ne rs y hz
      | ok y => rw [hz] at z; cases z
theorem ans_ne (l : Bool) (r : Rv) (x : Str) : ans l r ≠ .err x := by
  cases r with
  | fr m d => simp only [ans]; split <;> simp
  | ow m d => cases d <;> simp only [ans] <;> split <;> simp
  | bo m d => simp [ans]
theorem rg_dts {H : Hp} {L : AS} (a b : Int) (n : Nat) (h : (b - a).toNat = n) : Dts H L (rgV a b) (rngD a n) := by
  unfold rgV rngD
  rw [h]
  generalize List.range n = l
  induction l with
  | nil => exact .nil
  | cons x l ih => exact .cons (.int _) ih
theorem no_setI {N : List Str} {sc : Scope} {it : MI} {tg e : Expr} {env : Env} (h : okI N sc it tg e = true) : ∀ x, foldedSetIterable e env x = pure x := by
  intro x
  cases e with
  | Set a k p => cases it <;> simp [okI, ok_set] at h
  | _ => rfl
theorem RvOks.back {H0 : Hp} {M : AS} {Hs Hs' H : Hp} {vs : List V} {rs : List Rv} (e : Same Hs' Hs) (h : RvOks H0 M Hs H vs rs) : RvOks H0 M Hs' H vs rs := by
  induction h with
  | nil => exact .nil
  | cons a _ ih => exact .cons (a.back e) ih
theorem okEs_nil {N : List Str} {sc : Scope} {ms : MEs} (h : okEs N sc ms [] = true) : ms = .nil := by
  cases ms with
  | nil => rfl
  | cons _ _ => simp [okEs] at h
/-! sorted with a def as its key -/
theorem keyR_ok {r : R Rv} {k : Int} (h : keyR r = .ok k) : ∃ m, r = .ok (.fr m (.int k)) := by
  unfold keyR at h
  split at h
  · cases h; exact ⟨_, rfl⟩
  · cases h
theorem keyR_ne (r : R Rv) (x : Str) : keyR r ≠ .err x := by
  unfold keyR
  split <;> simp
theorem keysR_ne (g : List D → R Rv) : ∀ (ds : List D) (x : Str), keysR g ds ≠ .err x
  | [], x => by simp [keysR]
  | d :: ds, x => by
    intro h
    unfold keysR at h
    cases e1 : keyR (g [d]) with
    | bad => rw [e1] at h; cases h
    | err y => exact keyR_ne _ _ e1
    | ok k =>
      rw [e1] at h
      cases e2 : keysR g ds with
      | bad => simp only [R.bind, e2] at h; cases h
      | err y => exact keysR_ne g ds _ e2
      | ok ks => simp only [R.bind, e2] at h; cases h
theorem keysR_cons {g : List D → R Rv} {d : D} {ds : List D} {ks : List Int} (h : keysR g (d :: ds) = .ok ks) : ∃ k l, ks = k :: l ∧ keyR (g [d]) = .ok k ∧ keysR g ds = .ok l := by
  unfold keysR at h
  cases e1 : keyR (g [d]) with
  | bad => rw [e1] at h; cases h
  | err y => rw [e1] at h; cases h
  | ok k =>
    rw [e1] at h
    cases e2 : keysR g ds with
    | bad => simp only [R.bind, e2] at h; cases h
    | err y => simp only [R.bind, e2] at h; cases h
    | ok l =>
      simp only [R.bind, e2] at h
      cases h
      exact ⟨k, l, rfl, rfl, rfl⟩
theorem keysR_len {g : List D → R Rv} : ∀ {ds : List D} {ks : List Int}, keysR g ds = .ok ks → ks.length = ds.length
  | [], ks, h => by
    have h : (R.ok [] : R (List Int)) = .ok ks := h
    cases h; rfl
  | d :: ds, ks, h => by
    obtain ⟨k, l, rfl, _, h2⟩ := keysR_cons h
    rw [List.length_cons, List.length_cons, keysR_len h2]
theorem keysR_at {g : List D → R Rv} : ∀ {ds : List D} {ks : List Int}, keysR g ds = .ok ks → ∀ {i : Nat} {d : D} {k : Int}, ds[i]? = some d → ks[i]? = some k → ∃ m, g [d] = .ok (.fr m (.int k))
  | [], ks, h, i, d, k, hd, hk => by simp at hd
  | e :: ds, ks, h, i, d, k, hd, hk => by
    obtain ⟨k', l, rfl, h1, h2⟩ := keysR_cons h
    cases i with
    | zero =>
      simp at hd hk
      subst hd hk
      exact keyR_ok h1
    | succ i => exact keysR_at h2 (i := i) (by simpa using hd) (by simpa using hk)
theorem zip3L : ∀ {ks : List Int} {xs : List V} {ds : List D}, xs.length = ds.length → ks.zip xs = (ks.zip (xs.zip ds)).map fun q => (q.1, q.2.1)
  | [], _, _, _ => rfl
  | _ :: _, [], _, _ => by simp
  | _ :: _, _ :: _, [], h => by simp at h
  | k :: ks, x :: xs, d :: ds, h => by
    simp only [List.zip_cons_cons, List.map_cons]
    rw [zip3L (ks := ks) (xs := xs) (ds := ds) (by simpa using h)]
theorem zip3R : ∀ {ks : List Int} {xs : List V} {ds : List D}, xs.length = ds.length → ks.zip ds = (ks.zip (xs.zip ds)).map fun q => (q.1, q.2.2)
  | [], _, _, _ => rfl
  | _ :: _, [], [], _ => by simp
  | _ :: _, [], _ :: _, h => by simp at h
  | _ :: _, _ :: _, [], h => by simp at h
  | k :: ks, x :: xs, d :: ds, h => by
    simp only [List.zip_cons_cons, List.map_cons]
    rw [zip3R (ks := ks) (xs := xs) (ds := ds) (by simpa using h)]
theorem Dts.zipM {H : Hp} {L : AS} : ∀ {xs : List V} {ds : List D}, Dts H L xs ds → ∀ p ∈ xs.zip ds, Dt H L p.1 p.2
  | [], _, h, p, hp => by simp at hp
  | x :: xs, _, h, p, hp => by
    cases h with
    | cons a b =>
      rcases List.mem_cons.mp hp with rfl | hp
      · exact a
      · exact b.zipM p hp
theorem dts_of3 {H : Hp} {L : AS} : ∀ {T : List (Int × (V × D))}, (∀ p ∈ T, Dt H L p.2.1 p.2.2) → Dts H L (T.map fun p => p.2.1) (T.map fun p => p.2.2)
  | [], _ => .nil
  | p :: T, h => .cons (h p List.mem_cons_self) (dts_of3 fun q hq => h q (List.mem_cons_of_mem _ hq))
theorem srt_dts {H : Hp} {L : AS} {ks : List Int} {xs : List V} {ds : List D} (h : Dts H L xs ds) : Dts H L ((srtK (ks.zip xs)).map (·.2)) ((srtK (ks.zip ds)).map (·.2)) := by
  rw [zip3L (ks := ks) h.length, zip3R (ks := ks) h.length, srtK_map, srtK_map, List.map_map, List.map_map]
  exact dts_of3 fun p hp => h.zipM _ (List.of_mem_zip ((srtK_ok _).2.perm.mem_iff.mp hp)).2
theorem srk_data {K : PySem.W.Frag} {mg : Str → Option Value} {fa l : Addr} {g : List D → R Rv} {H0 : Hp} {M0 : AS} {Hs H : Hp} {M : AS} {σ : L2.St} {env : List Sl} {ds : List D} {xs : List V} {ks : List Int} {m : Bool} {Q : VK} (ok : EnvOk H0 M0 H M σ env) (s1 : Same Hs H) (r' : Rd H l (.lst xs)) (s' : Dts H (Lm H0 M m) xs ds) (ek : keysR g ds = .ok ks)
    (q : ∀ v H', Same Hs H' → RvOk H0 M Hs H' v (.ow m (.list ((srtK (ks.zip ds)).map (·.2)))) → Q v H') : rSrk K fa (spG mg 1 g) [.ref l] [.ref fa] H Q := by
  refine ⟨l, xs, ks, rfl, rfl, .inl r', by rw [keysR_len ek, s'.length], fun i x k hx hk H' sm => ?_, fun p H' sm hp => ?_⟩
  · obtain ⟨d, hd, dt⟩ := s'.getV hx
    obtain ⟨b, hg⟩ := keysR_at ek hd hk
    refine ⟨rfl, M, [d], fun a ha => ?_, .cons ((sm_dt sm dt).wk fun a l => l.1) .nil, ?_⟩
    · obtain ⟨o, e, mu⟩ := ok.dom a ha
      exact ⟨o, sm _ _ e, mu⟩
    · rw [hg]
      intro v H'' s2 rv
      have rv : Dt H'' _ v (.int k) := rv
      cases rv
      exact ⟨rfl, s2⟩
  · exact q _ _ ((s1.trans sm).trans (same_new hp)) (zn_rv (m := m) (nw := true) (ok.up sm) (s1.trans sm) (zn_new hp (sm_dts sm (srt_dts s'))))
theorem mkE {X : Cx} {Γ : FT} {E : XK} {m : ME} {e : Expr} (h : PE X e (tE Γ E X.mg m)) (he : ∀ whole, isTrue e X.env whole = (do let v ← whole; standAt e.pos; holding [v] (truthy v))) : PE X e (tE Γ E X.mg m) ∧ PT X e (tT Γ E X.mg m) := ⟨h, pt_of h he⟩
/-- a truth's reading -/
theorem rp_truth {E : XK} {mg : Str → Option Value} {H0 : Hp} {M : AS} {Hs H H1 : Hp} {r : Rv} {k : Bool → Prop} {v : V} (q : Rp E mg H1 (truth r) k) (rv : RvOk H0 M Hs H v r) : ∃ b, v = .bl b ∧ k b := by
  cases e : truth r with
  | bad => rw [e] at q; exact q.elim
  | err x =>
    cases r with
    | fr m d => cases d <;> simp [truth] at e
    | ow m d => simp [truth] at e
    | bo m d => simp [truth] at e
  | ok b =>
    rw [e] at q
    exact ⟨b, truth_bl rv e, q⟩
theorem sc_sc {H0 : Hp} {M : AS} {Hs H : Hp} {v : V} {r : Rv} {i : Int} (h : RvOk H0 M Hs H v r) (e : r.d = .int i) : v = .int i := by
  have := h.cn
  rw [e] at this
  cases this
  rfl
theorem semIx_int {d i z : D} (h : semIx d i = some z) : ∃ n, i = .int n := by
  cases d <;> cases i <;> simp only [semIx, reduceCtorEq] at h <;> exact ⟨_, rfl⟩
theorem Rp.same2 {E : XK} {mg : Str → Option Value} {α β : Type} {H H1 : Hp} {r : R α} {f : α → R β} {k : β → Prop} (h : Rp E mg H (r.bind f) k) (e : Same H H1) : Rp E mg H1 r fun a => Rp E mg H (f a) k := (Rp.bind h).same e
theorem rv_top {H0 : Hp} {M : AS} {Hs H : Hp} {r : Rv} {v : V} (rv : RvOk H0 M Hs H v r) (hb : isBo r = false) : ∀ a, v = .ref a → (∃ l, r.d = .list l) → Lm H0 M r.m a := fun a ea hd => by
  obtain ⟨l, hl⟩ := hd
  cases r with
  | fr m d =>
    have hl : d = .list l := hl
    subst hl
    cases rv with
    | lst q _ _ =>
      cases ea
      exact q
  | ow m d =>
    obtain ⟨b, rfl, _, h1, h2, _⟩ := rv
    cases ea
    exact ⟨h1, fun _ => h2⟩
  | bo m d => simp [isBo] at hb
theorem lcR_ne {f : D → R (Option (Bool × D))} (hf : ∀ d x, f d ≠ .err x) : ∀ (ds : List D) (x : Str), lcR f ds ≠ .err x
  | [], _ => by simp [lcR]
  | d :: ds, x => by
    intro z
    unfold lcR at z
    cases e : f d with
    | bad => rw [e] at z; cases z
    | err y => exact hf d y e
    | ok o =>
      rw [e] at z
      simp only [R.bind] at z
      cases e2 : lcR f ds with
      | bad => rw [e2] at z; cases z
      | err y => exact lcR_ne hf ds y e2
      | ok q =>
        rw [e2] at z
        cases o <;> cases z
theorem noErr_ok {α : Type} {r : R α} {a : α} (h : noErr r = .ok a) : r = .ok a := by
  cases r with
  | bad => cases h
  | err x => cases h
  | ok b => cases h; rfl
theorem noErr_ne {α : Type} (r : R α) (x : Str) : noErr r ≠ .err x := by cases r <;> simp [noErr]
theorem R.bind_ok {α β : Type} {r : R α} {f : α → R β} {b : β} (h : r.bind f = .ok b) : ∃ a, r = .ok a ∧ f a = .ok b := by
  cases r with
  | bad => cases h
  | err x => cases h
  | ok a => exact ⟨a, rfl, h⟩
theorem dts_upd {H : Hp} {L : AS} {p : Addr} {o u : HO} {xs : List V} {ds : List D} (hL : ¬ L p) (hp : H p = some u) (ht : ∀ xs, u ≠ .tup xs ∧ ∀ o, u ≠ .frz o (.tup xs)) (h : Dts H L xs ds) : Dts (upd H p o) L xs ds :=
  Dts.go (fun a u l e => ⟨by rw [upd_ne (fun z => hL (by rw [← z]; exact l))]; exact e, l⟩) (fun a ys r => by
    have ne : a ≠ p := fun z => by
      subst z
      rcases r with r | ⟨o, r⟩
      · rw [hp] at r; cases r; exact (ht ys).1 rfl
      · rw [hp] at r; cases r; exact (ht ys).2 o rfl
    rcases r with r | ⟨o, r⟩
    · exact .inl (by rw [upd_ne ne]; exact r)
    · exact .inr ⟨o, by rw [upd_ne ne]; exact r⟩) ds xs h
theorem rp_src {H0 : Hp} {M : AS} {Hs H : Hp} {r : Rv} {v : V} {ds : List D} (rv : RvOk H0 M Hs H v r) (hb : isBo r = false) (e : itemsOf r.d = some ds) : ∃ xs G, SrcOf v xs G ∧ Dts H (Lm H0 M r.m) xs ds ∧ G H ∧ ∀ H' L2, Kp H (Lm H0 M r.m) H' L2 → G H' := by
  refine src_cn rv.cn (fun a ea hd => ?_) e
  obtain ⟨l, hl⟩ := hd
  cases r with
  | fr m d =>
    have hl : d = .list l := hl
    subst hl
    cases rv with
    | lst q _ _ =>
      cases ea
      exact q
  | ow m d =>
    obtain ⟨b, rfl, _, h1, h2, _⟩ := rv
    cases ea
    exact ⟨h1, fun _ => h2⟩
  | bo m d => simp [isBo] at hb

theorem lc_imp {Γ : FT} {E : XK} {X : Cx} {g : MG} {it : MI} {c : MO} {elt : ME} (σ : L2.St) (H : Hp) (Q : VK) (h : tE Γ E X.mg (.lc g it c elt) σ H Q) :
    tLc (tI Γ E X.mg it) (gOf X g) (tC Γ (fun _ _ _ => False) X.mg c) (tE Γ (fun _ _ _ => False) X.mg elt) (idx g) σ H Q := by
  obtain ⟨H0, M0, M, env, eo, q⟩ := h
  simp only [evE] at q
  refine ⟨H0, M0, M, env, eo, (Rp.bind q).imp fun p _ q J H1 s1 wk D hD => ?_⟩
  generalize hf : (fun d => noErr ((bindG g p.1 d env).bind fun env' => (evC Γ env' c).bind fun t => if t then ((evE Γ env' elt).bind sto).bind (fun q => .ok (some q)) else .ok none)) = f at q
  have hne : ∀ d x, f d ≠ .err x := fun d x => by rw [← hf]; exact noErr_ne _ _
  cases hr : lcR f p.2 with
  | bad => rw [hr] at q; exact q.elim
  | err x => exact absurd hr (lcR_ne hne _ _)
  | ok r =>
    rw [hr] at q
    simp only [R.bind] at q
    split at q
    · rename_i hz
      have hz := fits_le hz
      obtain ⟨G, Y, w, hG, hY⟩ := wk
      have eD := (eo.up s1).fresh hD
      have kp : ∀ {H2 : Hp}, Same H1 H2 → Kp H1 (Lm H0 M p.1) H2 (Lm H0 (fun a => M a ∨ a = D) p.1) := fun {H2} s => ⟨fun a u l e => ⟨s _ _ e, fun z => z.elim l.1 fun z => (by rw [z, hD] at e; cases e), l.2⟩, fun a xs r => sm_rd s r⟩
      refine lc_it w (Qd := Q (.ref D)) (fun i H2 => Same H1 H2 ∧ ∃ acc outs rest, H2 D = some (.lst acc) ∧ Dts H2 (Lm H0 (fun a => M a ∨ a = D) r.1) acc outs ∧ acc.length ≤ i ∧ lcR f (p.2.drop i) = .ok rest ∧ (rest.1 = true → r.1 = true) ∧ r.2 = outs ++ rest.2) ?_ ?_ ?_ ?_
      · exact ⟨same_new hD, [], [], r, upd_same, .nil, Nat.le_refl _, by simpa using hr, fun z => z, rfl⟩
      · rintro i H2 _ ⟨s, _⟩
        exact hG H2 _ (kp s)
      · rintro i v H2 H3 hlt ⟨s, acc, outs, rest, e1, e2, e3, e4, e5, e6⟩ y
        have hd : p.2[i]? = some p.2[i] := List.getElem?_eq_getElem hlt
        rw [List.drop_eq_getElem_cons hlt] at e4
        generalize p.2[i] = d at hd e4
        obtain ⟨s3, t3⟩ := hY i H2 v H3 d _ (kp s) y hd
        unfold lcR at e4
        obtain ⟨o, f1, e4⟩ := R.bind_ok e4
        obtain ⟨rest', f2, e4⟩ := R.bind_ok e4
        rw [← hf] at f1
        obtain ⟨env', b1, f1⟩ := R.bind_ok (noErr_ok f1)
        obtain ⟨t, c1, f1⟩ := R.bind_ok f1
        have s13 := s.trans s3
        have eo3 : EnvOk H0 M0 H3 (fun a => M a ∨ a = D) σ env := (eo.up s1).add hD s13 ⟨_, s3 _ _ e1, trivial⟩
        refine bind_ok (eo3.wipe (idx g)) t3 (bind_wipe b1) fun σ2 eo4 g1 g2 => ⟨?_, ?_⟩
        · rw [wipe_ext (σ := wipe σ (idx g)) (by rw [g2]) g1]
          exact wipe_ext (wipe_length _ _) fun i hi => wipe_get hi
        · refine ⟨H0, M0, _, env', eo4, ?_⟩
          rw [c1]
          intro H4 s4
          cases t with
          | true =>
            rw [if_pos rfl] at f1 ⊢
            obtain ⟨pr, f5, f6⟩ := R.bind_ok f1
            obtain ⟨r1, v1, v2⟩ := R.bind_ok f5
            cases f6
            refine ⟨H0, M0, _, env', eo4.up s4, ?_⟩
            rw [v1]
            intro y' H5 s5 rv
            have s35 := s4.trans s5
            have s25 := s3.trans s35
            have d5 := s25 _ _ e1
            refine ⟨acc, d5, by omega, ?_, acc ++ [y'], outs ++ [pr.2], rest', upd_same, ?_, ?_, f2, ?_, ?_⟩
            · intro b o hb
              rw [upd_ne (ne_of_none hb hD)]
              exact (s.trans s25) _ _ hb
            · cases e4
              refine dts_upd (fun z => z.1 (.inr rfl)) d5 (fun xs => ⟨fun z => (nomatch z), fun o z => (nomatch z)⟩) ((sm_dts s25 e2).append (.cons ((rv.sto v2).wk fun a q => q.le fun z => e5 (by simp [z])) .nil))
            · rw [List.length_append, List.length_singleton]
              omega
            · cases e4
              exact fun z => e5 (by simp [z])
            · cases e4
              rw [e6, List.append_assoc]
              rfl
          | false =>
            rw [if_neg (by simp)] at f1 ⊢
            cases f1
            cases e4
            have s24 := s3.trans s4
            exact ⟨s.trans s24, acc, outs, rest, s24 _ _ e1, sm_dts s24 e2, by omega, f2, e5, e6⟩
      · rintro H2 ⟨s, acc, outs, rest, e1, e2, e3, e4, e5, e6⟩
        rw [List.drop_length] at e4
        cases e4
        rw [List.append_nil] at e6
        refine q _ _ (s1.trans s) ⟨D, rfl, s1.free hD, eD.1, eD.2, ?_⟩
        rw [e6]
        exact .lst e1 (e2.wk fun a l => ⟨⟨fun z => l.1 (.inl z), l.2⟩, fun z => l.1 (.inr z)⟩)
    · exact q.elim
section
variable {Γ : FT} {k : Nat}
mutual
theorem sE : ∀ (m : ME) {X : Cx} {E : XK} (e : Expr), Ok X Γ E k → okE X.N X.env.scope m e = true → PE X e (tE Γ E X.mg m) ∧ PT X e (tT Γ E X.mg m)
  | .v i, X, E, e, ok, h => by
    simp only [okE] at h
    split at h
    · refine mkE ((pe_v h).imp fun σ H Q ⟨H0, M0, M, env, eo, q⟩ => by
        simp only [evE, getSl] at q
        split at q
        · rename_i m d e1
          obtain ⟨v, e2, t⟩ := eo.sl i _ e1
          exact ⟨v, e2, q v H (Same.refl _) t⟩
        · rename_i m d e1
          obtain ⟨a, e2, _, _, t⟩ := eo.sl i _ e1
          exact ⟨_, e2, q _ H (Same.refl _) t.cn⟩
        · rename_i v m d e1
          obtain ⟨e2, t⟩ := eo.sl i _ e1
          exact ⟨v, e2, q v H (Same.refl _) t⟩
        · exact q.elim) fun _ => rfl
    · cases h
  | .kn, X, E, e, ok, h => by
    simp only [okE] at h
    split at h
    · refine mkE ((pe_non (X := X)).imp fun σ H Q ⟨H0, M0, M, env, eo, q⟩ => q _ H (Same.refl _) .non) fun _ => rfl
    · cases h
  | .kb b, X, E, e, ok, h => by
    simp only [okE] at h
    split at h
    · rename_i c _ _
      have hb := of_decide_eq_true h
      subst hb
      refine mkE ((pe_bl (X := X)).imp fun σ H Q ⟨H0, M0, M, env, eo, q⟩ => q _ H (Same.refl _) (.bl b)) fun _ => rfl
    · cases h
  | .ki b, X, E, e, ok, h => by
    simp only [okE] at h
    split at h
    · have hb := of_decide_eq_true h
      subst hb
      refine mkE ((pe_int (X := X)).imp fun σ H Q ⟨H0, M0, M, env, eo, q⟩ => q _ H (Same.refl _) (.int b)) fun _ => rfl
    · cases h
  | .ks b, X, E, e, ok, h => by
    simp only [okE] at h
    split at h
    · have hb := of_decide_eq_true h
      subst hb
      refine mkE ((pe_str (X := X)).imp fun σ H Q ⟨H0, M0, M, env, eo, q⟩ => q _ H (Same.refl _) (.str b)) fun _ => rfl
    · cases h
  | .lst ms, X, E, e, ok, h => by
    simp only [okE] at h
    split at h
    · refine mkE ((pe_lst (sEs ms _ ok h).1).imp fun σ H Q ⟨H0, M0, M, env, eo, q⟩ => by
        simp only [evE] at q
        refine ⟨H0, M0, M, env, eo, (Rp.bind q).imp fun rs _ q vs H1 s1 rv => ?_⟩
        cases es : stos rs with
        | bad => rw [es] at q; exact q.elim
        | err x => exact absurd es (stos_ne _ _)
        | ok p =>
          rw [es] at q
          have d := rv.stos es
          simp only [R.bind] at q
          split at q
          · rename_i hz
            exact ⟨by rw [d.length]; exact fits_le hz, fun a ha => q _ _ (s1.trans (same_new ha)) ⟨a, rfl, s1.free ha, ((eo.up s1).fresh ha).1, ((eo.up s1).fresh ha).2, .lst upd_same (dts_new ha d)⟩⟩
          · exact q.elim) fun _ => rfl
    · cases h
  | .tup ms, X, E, e, ok, h => by
    simp only [okE] at h
    split at h
    · refine mkE ((pe_tup (sEs ms _ ok h).1).imp fun σ H Q ⟨H0, M0, M, env, eo, q⟩ => by
        simp only [evE] at q
        refine ⟨H0, M0, M, env, eo, (Rp.bind q).imp fun rs _ q vs H1 s1 rv => ?_⟩
        cases es : stos rs with
        | bad => rw [es] at q; exact q.elim
        | err x => exact absurd es (stos_ne _ _)
        | ok p =>
          rw [es] at q
          have d := rv.stos es
          simp only [R.bind] at q
          split at q
          · rename_i hz
            exact ⟨by rw [d.length]; exact fits_le hz, fun a ha => q _ _ (s1.trans (same_new ha)) (.tup (.inl upd_same) (sm_dts (same_new ha) d))⟩
          · exact q.elim) fun _ => rfl
    · cases h
  | .dK0, X, E, e, ok, h => by
    simp only [okE] at h
    split at h
    · refine mkE ((pe_dnewK (X := X)).imp fun σ H Q ⟨H0, M0, M, env, eo, q⟩ => fun a ha =>
        q _ _ (same_new ha) ⟨a, rfl, ha, (eo.fresh ha).1, (eo.fresh ha).2, .dK (kvs := []) upd_same rfl .nil⟩) fun _ => rfl
    · cases h
  | .bin op a b, X, E, e, ok, h => by
    simp only [okE] at h
    split at h
    · simp only [Bool.and_eq_true, decide_eq_true_eq] at h
      obtain ⟨⟨rfl, h1⟩, h2⟩ := h
      refine mkE ((pe_op (bin_ok op) (sE a _ ok h1).1 (sE b _ ok h2).1).imp fun σ H Q ⟨H0, M0, M, env, eo, q⟩ => by
        simp only [evE] at q
        refine ⟨H0, M0, M, env, eo, (Rp.bind q).imp fun r _ q v H1 s1 rv => ⟨H0, M0, M, env, eo.up s1, ((Rp.bind q).same s1).imp fun r2 _ q u H2 s2 rv2 => ?_⟩⟩
        obtain ⟨nw, z, e, q⟩ := Rp.lift q
        exact ⟨Lm H0 M (r.m || r2.m), r.d, r2.d, nw, z, (sm_cn s2 rv.cn).wk fun _ => Lm.orl, rv2.cn.wk fun _ => Lm.orr, e, fun v' H3 zn => q v' H3 ((s1.trans s2).trans zn.1) (zn_rv (eo.up (s1.trans s2)) (s1.trans s2) zn)⟩) fun _ => rfl
    · cases h
  | .neg a, X, E, e, ok, h => by
    simp only [okE] at h
    split at h
    · refine mkE ((pe_un un_neg (sE a _ ok h).1).imp fun σ H Q ⟨H0, M0, M, env, eo, q⟩ => by
        simp only [evE] at q
        refine ⟨H0, M0, M, env, eo, (Rp.bind q).imp fun r _ q v H1 s1 rv => ?_⟩
        split at q
        · rename_i i hi
          exact ⟨i, sc_sc rv hi, q _ H1 s1 (.int _)⟩
        · exact q.elim) fun _ => rfl
    · cases h
  | .cmp op a b, X, E, e, ok, h => by
    simp only [okE] at h
    split at h
    · simp only [Bool.and_eq_true, decide_eq_true_eq, Bool.not_eq_true'] at h
      obtain ⟨⟨⟨rfl, hm⟩, h1⟩, h2⟩ := h
      have i : ∀ (σ : L2.St) (H : Hp) (Q : VK), tE Γ E X.mg (.cmp op a b) σ H Q → tOp (rC (semCmp op)) (tE Γ E X.mg a) (tE Γ E X.mg b) σ H Q := fun σ H Q ⟨H0, M0, M, env, eo, q⟩ => by
        simp only [evE] at q
        refine ⟨H0, M0, M, env, eo, (Rp.bind q).imp fun r _ q v H1 s1 rv => ⟨H0, M0, M, env, eo.up s1, ((Rp.bind q).same s1).imp fun r2 _ q u H2 s2 rv2 => ?_⟩⟩
        obtain ⟨b', e, q⟩ := Rp.liftB q
        exact ⟨Lm H0 M (r.m || r2.m), r.d, r2.d, b', (sm_cn s2 rv.cn).wk fun _ => Lm.orl, rv2.cn.wk fun _ => Lm.orr, e, q _ H2 (s1.trans s2) (.bl b')⟩
      refine ⟨(pe_cmpR (cmp_ok ok.hu op) (sE a _ ok h1).1 (sE b _ ok h2).1 hm).imp i, (pt_cmpR (cmp_ok ok.hu op) (sE a _ ok h1).1 (sE b _ ok h2).1 hm).imp fun σ H Q ⟨H0, M0, M, env, eo, q⟩ => ?_⟩
      refine i σ H _ ⟨H0, M0, M, env, eo, (Rp.bind q).imp fun r _ q v H1 s1 rv => ?_⟩
      obtain ⟨b', rfl, q⟩ := rp_truth q rv
      exact ⟨b', rfl, q H1 s1⟩
    · cases h
  | .chn op op2 a b c, X, E, e, ok, h => by
    simp only [okE] at h
    split at h
    · simp only [Bool.and_eq_true, decide_eq_true_eq, Bool.not_eq_true'] at h
      obtain ⟨⟨⟨⟨⟨rfl, rfl⟩, hm⟩, h1⟩, h2⟩, h3⟩ := h
      have i : ∀ (σ : L2.St) (H : Hp) (Q : VK), tE Γ E X.mg (.chn op op2 a b c) σ H Q → tChain (rC (semCmp op)) (rC (semCmp op2)) (tE Γ E X.mg a) (tE Γ E X.mg b) (tE Γ E X.mg c) σ H Q := fun σ H Q ⟨H0, M0, M, env, eo, q⟩ => by
        simp only [evE] at q
        refine ⟨H0, M0, M, env, eo, (Rp.bind q).imp fun r _ q v H1 s1 rv => ⟨H0, M0, M, env, eo.up s1, ((Rp.bind q).same s1).imp fun r2 _ q u H2 s2 rv2 => ?_⟩⟩
        have c1 := (sm_cn s2 rv.cn).wk (L' := Lm H0 M (r.m || r2.m)) fun _ => Lm.orl
        have c2 := rv2.cn.wk (L' := Lm H0 M (r.m || r2.m)) fun _ => Lm.orr
        split at q
        · rename_i e1
          refine ⟨Lm H0 M (r.m || r2.m), r.d, r2.d, true, c1, c2, e1, true, rfl, ?_⟩
          rw [if_pos rfl]
          refine ⟨H0, M0, M, env, eo.up (s1.trans s2), (q.same2 (s1.trans s2)).imp fun r3 _ q w H3 s3 rv3 => ?_⟩
          obtain ⟨b', e, q⟩ := Rp.liftB q
          exact ⟨Lm H0 M (r2.m || r3.m), r2.d, r3.d, b', (sm_cn s3 rv2.cn).wk fun _ => Lm.orl, rv3.cn.wk fun _ => Lm.orr, e, q _ H3 ((s1.trans s2).trans s3) (.bl b')⟩
        · rename_i e1
          refine ⟨Lm H0 M (r.m || r2.m), r.d, r2.d, false, c1, c2, e1, false, rfl, ?_⟩
          rw [if_neg (by simp)]
          exact q _ H2 (s1.trans s2) (.bl false)
        · exact q.elim
      have hm' : lastMarks [op, op2] [_, _] = false := hm
      refine ⟨(pe_chain (cmp_ok ok.hu op) (cmp_ok ok.hu op2) (sE a _ ok h1).1 (sE b _ ok h2).1 (sE c _ ok h3).1 hm').imp i, (pt_chain (cmp_ok ok.hu op) (cmp_ok ok.hu op2) (sE a _ ok h1).1 (sE b _ ok h2).1 (sE c _ ok h3).1 hm').imp fun σ H Q ⟨H0, M0, M, env, eo, q⟩ => ?_⟩
      refine i σ H _ ⟨H0, M0, M, env, eo, (Rp.bind q).imp fun r _ q v H1 s1 rv => ?_⟩
      obtain ⟨b', rfl, q⟩ := rp_truth q rv
      exact ⟨b', rfl, q H1 s1⟩
    · cases h
  | .bop con ms, X, E, e, ok, h => by
    simp only [okE] at h
    have fin : ∀ {es : List Expr} {pos : Pos}, okEs X.N X.env.scope ms es = true → e = .BoolOp (bOp con) es pos → PE X e (tE Γ E X.mg (.bop con ms)) ∧ PT X e (tT Γ E X.mg (.bop con ms)) := fun {es pos} hh he => by
      subst he
      cases es with
      | nil =>
        have bad : ∀ env, evB Γ env con ms = .bad := fun env => by
          rw [okEs_nil hh]
          rfl
        refine ⟨⟨fun pins s σ H Q I ⟨H0, M0, M, env, eo, q⟩ => ?_⟩, ⟨fun pins s σ H Q I ⟨H0, M0, M, env, eo, q⟩ => ?_⟩⟩
        · simp only [evE, bad env] at q
          exact q.elim
        · simp only [evE, bad env] at q
          exact q.elim
      | cons y ys =>
        obtain ⟨p1, p2⟩ := (sEs ms (y :: ys) ok hh).2 con (by simp) pos
        refine ⟨p1.imp fun σ H Q ⟨H0, M0, M, env, eo, q⟩ => ?_, p2.pt.imp fun σ H Q ⟨H0, M0, M, env, eo, q⟩ => ?_⟩
        · simp only [evE] at q
          exact ⟨H0, M0, M, env, eo, (Rp.bind q).imp fun b _ q H1 s1 => q _ H1 s1 (.bl b)⟩
        · simp only [evE] at q
          exact ⟨H0, M0, M, env, eo, (Rp.bind (Rp.bind q)).imp fun b _ q H1 s1 => q H1 s1⟩
    split at h
    · simp only [Bool.and_eq_true] at h
      obtain ⟨hc, h⟩ := h
      subst hc
      exact fin h rfl
    · simp only [Bool.and_eq_true, Bool.not_eq_true'] at h
      obtain ⟨hc, h⟩ := h
      subst hc
      exact fin h rfl
    · cases h
  | .not_ a, X, E, e, ok, h => by
    simp only [okE] at h
    split at h
    · obtain ⟨p1, p2⟩ := sE a _ ok h
      refine ⟨(pe_not p1).imp fun σ H Q ⟨H0, M0, M, env, eo, q⟩ => ?_, (pt_not p2).imp fun σ H Q ⟨H0, M0, M, env, eo, q⟩ => ?_⟩
      · simp only [evE] at q
        refine ⟨H0, M0, M, env, eo, (Rp.bind q).imp fun r _ q v H1 s1 rv => ?_⟩
        obtain ⟨b', rfl, q⟩ := rp_truth (Rp.bind q) rv
        exact ⟨b', rfl, q _ H1 s1 (.bl _)⟩
      · simp only [evE] at q
        refine ⟨H0, M0, M, env, eo, Rp.of_bind ((Rp.bind (Rp.bind q)).imp fun r _ q => (Rp.bind q).imp fun b _ q H1 s1 => q H1 s1)⟩
    · cases h
  | .ite c a b, X, E, e, ok, h => by
    simp only [okE] at h
    split at h
    · simp only [Bool.and_eq_true] at h
      obtain ⟨⟨h1, h2⟩, h3⟩ := h
      obtain ⟨pa, ta⟩ := sE a _ ok h2
      obtain ⟨pb, tb⟩ := sE b _ ok h3
      have pc := (sE c _ ok h1).2
      refine ⟨(pe_ifExp pc pa pb).imp fun σ H Q ⟨H0, M0, M, env, eo, q⟩ => ?_, ⟨fun pins s σ H Q I ⟨H0, M0, M, env, eo, q⟩ => ?_⟩⟩
      · simp only [evE] at q
        refine ⟨H0, M0, M, env, eo, Rp.of_bind ((Rp.bind q).imp fun r _ q => (Rp.bind q).imp fun t _ q H1 s1 => ?_)⟩
        cases t with
        | true => exact ⟨H0, M0, M, env, eo.up s1, (Rp.same q s1).imp fun r _ q v H2 s2 rv => q v H2 (s1.trans s2) (rv.back s1)⟩
        | false => exact ⟨H0, M0, M, env, eo.up s1, (Rp.same q s1).imp fun r _ q v H2 s2 rv => q v H2 (s1.trans s2) (rv.back s1)⟩
      · simp only [evE] at q
        refine isTrue_IfExp (thn (pc.run pins s σ H (fun t H1 => if t = true then tT Γ E X.mg a σ H1 Q else tT Γ E X.mg b σ H1 Q) I ⟨H0, M0, M, env, eo, Rp.of_bind ((Rp.bind (Rp.bind q)).imp fun r _ q => (Rp.bind (Rp.of_bind (Rp.bind q))).imp fun t _ q H1 s1 => ?_)⟩) fun t s1 ⟨H1, I1, q1⟩ => ?_)
        · cases t with
          | true =>
            rw [if_pos rfl] at q ⊢
            exact ⟨H0, M0, M, env, eo.up s1, Rp.of_bind ((Rp.same q s1).imp fun r _ q => (Rp.same q s1).imp fun b _ q H2 s2 => q H2 (s1.trans s2))⟩
          | false =>
            rw [if_neg (by simp)] at q ⊢
            exact ⟨H0, M0, M, env, eo.up s1, Rp.of_bind ((Rp.same q s1).imp fun r _ q => (Rp.same q s1).imp fun b _ q H2 s2 => q H2 (s1.trans s2))⟩
        · cases t with
          | true => exact ta.run pins s1 σ H1 Q I1 q1
          | false => exact tb.run pins s1 σ H1 Q I1 q1
    · cases h
  | .ix a i, X, E, e, ok, h => by
    simp only [okE] at h
    split at h
    · simp only [Bool.and_eq_true] at h
      obtain ⟨h1, h2⟩ := h
      refine mkE ((pe_ix ix_ok (sE a _ ok h1).1 (sE i _ ok h2).1 (plain_ix h2)).imp fun σ H Q ⟨H0, M0, M, env, eo, q⟩ => by
        simp only [evE] at q
        refine ⟨H0, M0, M, env, eo, (Rp.bind q).imp fun r _ q v H1 s1 rv => ⟨H0, M0, M, env, eo.up s1, ((Rp.bind q).same s1).imp fun r2 _ q u H2 s2 rv2 => ?_⟩⟩
        obtain ⟨nw, z, e, q⟩ := Rp.lift q
        cases e2 : semIx r.d r2.d with
        | none => rw [e2] at e; cases e
        | some z' =>
          rw [e2] at e
          cases e
          have c2 : Cn H2 (Lm H0 M r.m) u r2.d := by
            obtain ⟨n, hn⟩ := semIx_int e2
            rw [hn, sc_sc rv2 hn]
            exact .int n
          exact ⟨Lm H0 M r.m, r.d, r2.d, z, sm_cn s2 rv.cn, c2, e2, fun v' t => q v' H2 (s1.trans s2) (zn_rv (eo.up (s1.trans s2)) (s1.trans s2) (zn_dt t))⟩) fun _ => rfl
    · cases h
  | .sl a lo hi, X, E, e, ok, h => by
    simp only [okE] at h
    split at h
    · simp only [Bool.and_eq_true] at h
      obtain ⟨⟨h1, h2⟩, h3⟩ := h
      refine mkE ((pe_slice sl_ok (sE a _ ok h1).1 (sO lo _ ok h2) (sO hi _ ok h3)).imp fun σ H Q ⟨H0, M0, M, env, eo, q⟩ => by
        simp only [evE] at q
        refine ⟨H0, M0, M, env, eo, (Rp.bind q).imp fun r _ q v H1 s1 rv => ⟨H0, M0, M, env, eo.up s1, ((Rp.bind q).same s1).imp fun l _ q H2 s2 => ⟨H0, M0, M, env, eo.up (s1.trans s2), ((Rp.bind q).same (s1.trans s2)).imp fun u _ q H3 s3 => ?_⟩⟩⟩
        obtain ⟨nw, z, e, q⟩ := Rp.lift q
        have s4 := (s1.trans s2).trans s3
        exact ⟨Lm H0 M r.m, r.d, nw, z, sm_cn (s2.trans s3) rv.cn, e, fun v' H4 zn => q v' H4 (s4.trans zn.1) (zn_rv (eo.up s4) s4 zn)⟩) fun _ => rfl
    · cases h
  | .bi f ms, X, E, e, ok, h => by
    simp only [okE] at h
    split at h
    · simp only [Bool.and_eq_true, decide_eq_true_eq] at h
      obtain ⟨⟨⟨rfl, h1⟩, h2⟩, h3⟩ := h
      obtain ⟨u, hu⟩ := Option.isSome_iff_exists.mp h2
      obtain ⟨b1, b2, b3, b4⟩ := boot_bi hu
      have hm := ok.blt f b4
      have sa := (sEs ms _ ok h3).1
      have h3' := h3
      have hst : ∀ x es, okEs X.N X.env.scope ms (x :: es) = true → starEach (x :: es) X.env = (false, eval x X.env) :: starEach es X.env ∧ ∀ pos, (backTo pos (starEach es X.env)).any (·.1) = false := fun x es hh => by
        cases ms with
        | nil => simp [okEs] at hh
        | cons m ms' =>
          simp only [okEs, Bool.and_eq_true] at hh
          exact ⟨star_cons hh.1 es _, fun pos => back_any pos _ (star_none hh.2)⟩
      have i : ∀ (σ : L2.St) (H : Hp) (Q : VK), tE Γ E X.mg (.bi f ms) σ H Q → tCB (rBi f) (tEs Γ E X.mg ms) σ H Q := fun σ H Q ⟨H0, M0, M, env, eo, q⟩ => by
        simp only [evE] at q
        refine ⟨H0, M0, M, env, eo, (Rp.bind q).imp fun rs _ q vs H1 s1 rv => ?_⟩
        obtain ⟨nw, z, e, q⟩ := Rp.lift q
        exact ⟨Lm H0 M (anyM rs), _, nw, z, rv.cns fun r hr hm => anyM_mem hr hm, e, fun v' H2 zn => q v' H2 (s1.trans zn.1) (zn_rv (eo.up s1) s1 zn)⟩
      rcases biV_ty hu with ⟨n, rfl⟩ | ⟨n, rfl⟩
      · exact mkE ((pe_callB (bi_ok ok.calm hu) (gl_of h1).1 hm b1 sa b2 b3 (hst _ _ h3).1 ((hst _ _ h3).2 _)).imp i) fun _ => rfl
      · exact mkE ((pe_callTy (bi_ok ok.calm hu) (gl_of h1).1 hm b1 sa b2 b3 (hst _ _ h3).1 ((hst _ _ h3).2 _)).imp i) fun _ => rfl
    · cases h
  | .isi a T, X, E, e, ok, h => by
    simp only [okE] at h
    split at h
    · simp only [Bool.and_eq_true, decide_eq_true_eq] at h
      obtain ⟨⟨⟨⟨⟨rfl, h1⟩, rfl⟩, h2⟩, h3⟩, h4⟩ := h
      have h3' : (decide (T = "str") || decide (T = "bool") || decide (T = "int") || decide (T = "list") || decide (T = "tuple")) = true := by simpa using h3
      obtain ⟨b1, b2, b3, b4⟩ := boot_ty h3'
      refine mkE ((pe_callB call_isi (gl_of h1).1 (ok.blt _ (by decide)) (by decide +kernel) (pa_cons (sE a _ ok h4).1 (pa_cons (pe_bltn (v := .ty (tyS T)) (gl_of h2).1 (ok.blt _ b4) b1 rfl b2 b3) pa_nil (by rfl)) (star_cons h4 _ _)) (by decide) (by decide) (star_cons h4 _ _) (by rfl)).imp fun σ H Q ⟨H0, M0, M, env, eo, q⟩ => by
        simp only [evE] at q
        refine ⟨H0, M0, M, env, eo, (Rp.bind q).imp fun r _ q v H1 s1 rv => ?_⟩
        obtain ⟨b', e, q⟩ := Rp.liftB q
        exact ⟨v, .ty (tyS T), .type (tyN r.d), .type (tyS T), b', rfl, .ty _, ty_cn rv.cn, isi_kit e, q _ H1 s1 (.bl b')⟩) fun _ => rfl
    · cases h
  | .mt o f ms, X, E, e, ok, h => by
    simp only [okE] at h
    split at h
    · simp only [Bool.and_eq_true, Bool.or_eq_true, decide_eq_true_eq] at h
      obtain ⟨⟨⟨⟨⟨rfl, h1⟩, h2⟩, h3⟩, h4⟩, h5⟩ := h
      have sa := (sEs ms _ ok h5).1
      have hst : ∀ x es, okEs X.N X.env.scope ms (x :: es) = true → starEach (x :: es) X.env = (false, eval x X.env) :: starEach es X.env ∧ (starEach es X.env).any (·.1) = false := fun x es hh => by
        cases ms with
        | nil => simp [okEs] at hh
        | cons m ms' =>
          simp only [okEs, Bool.and_eq_true] at hh
          exact ⟨star_cons hh.1 es _, star_none hh.2⟩
      have hat : ∀ x : Expr, okE X.N X.env.scope o x = true → attributeBase x f X.env (eval x X.env) = eval x X.env := fun x hx => by
        unfold attributeBase
        split
        · exfalso
          cases o <;> simp [okE] at hx
        · rfl
      have hfew : ∀ (x : Expr) (es : List Expr) (cp : Pos), okEs X.N X.env.scope ms (x :: es) = true → es.length < 20 → ((backTo cp (starEach (x :: es) X.env)).all (fun x => !x.1) && (backToKw cp (keywordEach [] X.env)).all (fun x => x.1.isSome)
          && decide ((x :: es).length + ([] : List Keyword).length + (if ([] : List Keyword).isEmpty then 0 else 1) < 30)) = true := fun x es cp hh hl => by
        rw [back_all cp _ (by rw [(hst x es hh).1, List.any_cons, (hst x es hh).2]; rfl)]
        have : decide ((x :: es).length + ([] : List Keyword).length + (if ([] : List Keyword).isEmpty then 0 else 1) < 30) = true := by
          apply decide_eq_true
          simp
          omega
        rw [this]
        rfl
      rcases h1 with (h1 | h1) | h1 <;> subst h1
      · refine mkE ((pe_bm PySem.F.plainAttrs_str PySem.F.slot_str_join PySem.F.type_str_join mt_ok_join (sE o _ ok h4).1 sa (hat _ h4) (hfew _ _ _ h5 h3) h2 (hst _ _ h5).1 (back_any _ _ (hst _ _ h5).2)).imp fun σ H Q ⟨H0, M0, M, env, eo, q⟩ => by
          simp only [evE] at q
          refine ⟨H0, M0, M, env, eo, (Rp.bind q).imp fun r _ q v H1 s1 rv => ?_⟩
          split at q
          · rename_i hr
            obtain ⟨z, hz⟩ : ∃ z, r.d = .str z := by
              cases hd : r.d <;> rw [hd] at hr <;> simp [isStr] at hr
              exact ⟨_, rfl⟩
            have ev : v = .str z := by
              have := rv.cn
              rw [hz] at this
              cases this
              rfl
            refine ⟨by rw [ev]; rfl, H0, M0, M, env, eo.up s1, ((Rp.bind q).same s1).imp fun rs _ q vs H2 s2 rv2 => ?_⟩
            obtain ⟨nw, z', e, q⟩ := Rp.lift q
            have e : m_join r.d (rs.map Rv.d) = some (nw, z') := e
            have e2 := sc_join e
            exact ⟨Lm H0 M true, r.d, _, nw, z', (sm_cn s2 rv.cn).wk fun _ q => q.le fun _ => rfl, rv2.cns (m := true) fun _ _ _ => rfl, e, fun v' t _ => q v' H2 (s1.trans s2) (zn_rv (eo.up (s1.trans s2)) (s1.trans s2) (by rw [e2.1]; exact zn_dt (t.cn.dt_sc e2.2)))⟩
          · exact q.elim) fun _ => rfl
      · refine mkE ((pe_bm PySem.F.plainAttrs_str PySem.F.slot_str_startswith PySem.F.type_str_startswith mt_ok_starts (sE o _ ok h4).1 sa (hat _ h4) (hfew _ _ _ h5 h3) h2 (hst _ _ h5).1 (back_any _ _ (hst _ _ h5).2)).imp fun σ H Q ⟨H0, M0, M, env, eo, q⟩ => by
          simp only [evE] at q
          refine ⟨H0, M0, M, env, eo, (Rp.bind q).imp fun r _ q v H1 s1 rv => ?_⟩
          split at q
          · rename_i hr
            obtain ⟨z, hz⟩ : ∃ z, r.d = .str z := by
              cases hd : r.d <;> rw [hd] at hr <;> simp [isStr] at hr
              exact ⟨_, rfl⟩
            have ev : v = .str z := by
              have := rv.cn
              rw [hz] at this
              cases this
              rfl
            refine ⟨by rw [ev]; rfl, H0, M0, M, env, eo.up s1, ((Rp.bind q).same s1).imp fun rs _ q vs H2 s2 rv2 => ?_⟩
            obtain ⟨nw, z', e, q⟩ := Rp.lift q
            have e : m_startswith r.d (rs.map Rv.d) = some (nw, z') := e
            have e2 := sc_starts e
            exact ⟨Lm H0 M true, r.d, _, nw, z', (sm_cn s2 rv.cn).wk fun _ q => q.le fun _ => rfl, rv2.cns (m := true) fun _ _ _ => rfl, e, fun v' t _ => q v' H2 (s1.trans s2) (zn_rv (eo.up (s1.trans s2)) (s1.trans s2) (by rw [e2.1]; exact zn_dt (t.cn.dt_sc e2.2)))⟩
          · exact q.elim) fun _ => rfl
      · refine mkE ((pe_bm PySem.F.plainAttrs_str PySem.F.slot_str_count PySem.F.type_str_count mt_ok_count (sE o _ ok h4).1 sa (hat _ h4) (hfew _ _ _ h5 h3) h2 (hst _ _ h5).1 (back_any _ _ (hst _ _ h5).2)).imp fun σ H Q ⟨H0, M0, M, env, eo, q⟩ => by
          simp only [evE] at q
          refine ⟨H0, M0, M, env, eo, (Rp.bind q).imp fun r _ q v H1 s1 rv => ?_⟩
          split at q
          · rename_i hr
            obtain ⟨z, hz⟩ : ∃ z, r.d = .str z := by
              cases hd : r.d <;> rw [hd] at hr <;> simp [isStr] at hr
              exact ⟨_, rfl⟩
            have ev : v = .str z := by
              have := rv.cn
              rw [hz] at this
              cases this
              rfl
            refine ⟨by rw [ev]; rfl, H0, M0, M, env, eo.up s1, ((Rp.bind q).same s1).imp fun rs _ q vs H2 s2 rv2 => ?_⟩
            obtain ⟨nw, z', e, q⟩ := Rp.lift q
            have e : m_count r.d (rs.map Rv.d) = some (nw, z') := e
            have e2 := sc_count e
            exact ⟨Lm H0 M true, r.d, _, nw, z', (sm_cn s2 rv.cn).wk fun _ q => q.le fun _ => rfl, rv2.cns (m := true) fun _ _ _ => rfl, e, fun v' t _ => q v' H2 (s1.trans s2) (zn_rv (eo.up (s1.trans s2)) (s1.trans s2) (by rw [e2.1]; exact zn_dt (t.cn.dt_sc e2.2)))⟩
          · exact q.elim) fun _ => rfl
    · cases h
  | .call f ms, X, E, e, ok, h => by
    simp only [okE] at h
    split at h
    · simp only [Bool.and_eq_true, decide_eq_true_eq] at h
      obtain ⟨⟨rfl, h1⟩, h3⟩ := h
      have sa := (sEs ms _ ok h3).1
      have hst : ∀ x es, okEs X.N X.env.scope ms (x :: es) = true → starEach (x :: es) X.env = (false, eval x X.env) :: starEach es X.env ∧ ∀ pos, (backTo pos (starEach es X.env)).any (·.1) = false := fun x es hh => by
        cases ms with
        | nil => simp [okEs] at hh
        | cons m ms' =>
          simp only [okEs, Bool.and_eq_true] at hh
          exact ⟨star_cons hh.1 es _, fun pos => back_any pos _ (star_none hh.2)⟩
      cases hΓ : Γ f with
      | none =>
        refine ⟨⟨fun pins s σ H Q I ⟨H0, M0, M, env, eo, q⟩ => ?_⟩, ⟨fun pins s σ H Q I ⟨H0, M0, M, env, eo, q⟩ => ?_⟩⟩
        · simp only [evE, hΓ] at q
          exact q.elim
        · simp only [evE, hΓ] at q
          exact q.elim
      | some p =>
        obtain ⟨n, g⟩ := p
        obtain ⟨fa, fd, ps, F, mf, kf, bf⟩ := ok.fns f n g hΓ
        have cp : ∀ (cls : Value) (d : Option Addr) (σ : L2.St) (H : Hp), E cls d H → E cls d H := fun _ _ _ _ q => q
        refine mkE ((pe_call F (ok.room.mono (by omega)) (gl_of h1).1 mf kf bf .nil (passes_call ok.tk cp) sa (gl_of h1).2 (hst _ _ h3).1 ((hst _ _ h3).2 _)).imp fun σ H Q ⟨H0, M0, M, env, eo, q⟩ => by
          simp only [evE, hΓ] at q
          refine ⟨H0, M0, M, env, eo, (Rp.bind q).imp fun rs _ q vs H1 s1 rv => ?_⟩
          split at q
          · rename_i hn
            obtain ⟨Mc, m1, m2, ds⟩ := args_ok (eo.up s1) rv
            rw [List.append_nil]
            refine ⟨by rw [rv.length]; exact hn, Mc, _, fun a ha => (eo.up s1).dom a (m1 a ha), ds, ((Rp.bind q).same s1).imp fun r _ q v H2 s2 rv2 => ?_⟩
            cases e : ans (rs.any isBo) r with
            | bad => rw [e] at q; exact q.elim
            | err x => exact absurd e (ans_ne _ _ _)
            | ok r' =>
              rw [e] at q
              exact q v H2 (s1.trans s2) (rv2.ans (eo.up s1) s1 m2 e)
          · exact q.elim) fun _ => rfl
    · cases h
  | .rep a y z, X, E, e, ok, h => by
    simp [okE] at h
  | .dgt i k d, X, E, e, ok, h => by
    simp only [okE] at h
    split at h
    · rename_i x p0 m ap y z cp
      simp only [Bool.and_eq_true, decide_eq_true_eq] at h
      obtain ⟨⟨⟨⟨h1, rfl⟩, h2⟩, h3⟩, h4⟩ := h
      have hm : M2 X (.Name x p0) "get" ap y z cp := ⟨rfl, by rw [star_cons h3, star_cons h4]; rfl, h2, by rw [star_cons h3, star_cons h4]; rfl⟩
      have hu1 : X.A.units + 1 < cLine := by have := ok.hu; omega
      refine mkE ((pe_dget2 hu1 (pe_v h1) (sE k y ok h3).1 (sE d z ok h4).1 hm).imp fun σ H Q ⟨H0, M0, M, env, eo, q⟩ => by
        simp only [evE] at q
        have key : ∀ (x : Rv) (vx : V), σ[i]? = some (some vx) → Cn H (Lm H0 M x.m) vx x.d → Rp E X.mg H (match x.d with
            | .dict es => (evE Γ env k).bind fun y => (evE Γ env d).bind fun z => match y.d with
              | .str key => match getS es key with
                | some v => .ok (mk x.m false v)
                | none => if isBo z then .bad else .ok z
              | _ => .bad
            | _ => .bad) (fun r => ∀ v H', Same H H' → RvOk H0 M H H' v r → Q v H') → tDGet2 (tVar i) (tE Γ E X.mg k) (tE Γ E X.mg d) σ H Q := fun x vx hv c q => by
          refine ⟨vx, hv, ?_⟩
          split at q
          · rename_i es hd
            rw [hd] at c
            cases c with
            | @dK a kvs _ r' hk hvs =>
              refine ⟨a, rfl, .inl ⟨kvs, .inl r'⟩, H0, M0, M, env, eo, (Rp.bind q).imp fun ry _ q v1 H1 s1 rv1 => ⟨H0, M0, M, env, eo.up s1, ((Rp.bind q).same s1).imp fun rz _ q v2 H2 s2 rv2 => ?_⟩⟩
              split at q
              · rename_i key hy
                have c1 := rv1.cn
                rw [hy] at c1
                cases c1
                have s12 := s1.trans s2
                refine ⟨valV kvs (.inr key), DGet.k (k := .inr key) (s12 _ _ r'), ?_⟩
                have gv := get_val key hk (sm_dvs s12 hvs)
                split at q
                · rename_i v hg
                  rw [hg] at gv
                  obtain ⟨u, e1, t⟩ := gv
                  rw [e1]
                  exact q u H2 s12 (zn_rv (Hs := H) (nw := false) (eo.up s12) s12 (zn_dt t))
                · rename_i hg
                  rw [hg] at gv
                  have gv : valV kvs (.inr key) = none := gv
                  rw [gv]
                  split at q
                  · exact q.elim
                  · exact q v2 H2 s12 (rv2.back s1)
              · exact q.elim
          · exact q.elim
        unfold getSl at q
        split at q
        · rename_i m d' e'
          obtain ⟨v, q1, t⟩ := eo.sl i _ e'
          exact key (.fr m d') v q1 t.cn q
        · rename_i m d' e'
          obtain ⟨a, q1, _, _, t⟩ := eo.sl i _ e'
          exact key (.bo m d') _ q1 t.cn q
        · rename_i v m d' e'
          obtain ⟨q1, t⟩ := eo.sl i _ e'
          exact key (.fr m d') v q1 t.cn q
        · exact q.elim) fun _ => rfl
    · cases h
  | .lix a b, X, E, e, ok, h => by
    simp only [okE] at h
    split at h
    · rename_i x m ap y cp
      simp only [Bool.and_eq_true, decide_eq_true_eq] at h
      obtain ⟨⟨⟨rfl, h2⟩, h3⟩, h4⟩ := h
      have hat : attributeBase x "index" X.env (eval x X.env) = eval x X.env := by
        unfold attributeBase
        split
        · exfalso
          cases a <;> simp [okE] at h3
        · rfl
      refine mkE ((pe_bm PySem.F.plainAttrs_list PySem.F.slot_list_index PySem.F.type_list_index mt_index (sE a x ok h3).1 (pa_cons (sE b y ok h4).1 pa_nil (star_cons h4 _ _)) hat (by rw [star_cons h4]; rfl) h2 (star_cons h4 _ _) rfl).imp fun σ H Q ⟨H0, M0, M, env, eo, q⟩ => by
        simp only [evE] at q
        refine ⟨H0, M0, M, env, eo, (Rp.bind q).imp fun r _ q v H1 s1 rv => ?_⟩
        split at q
        · rename_i ds hr
          have c := rv.cn
          rw [hr] at c
          cases c with
          | @lst l xs _ r' s' =>
            refine ⟨.inl ⟨rfl, xs, .inl r'⟩, H0, M0, M, env, eo.up s1, ((Rp.bind q).same s1).imp fun r2 _ q v2 H2 s2 rv2 => ?_⟩
            split at q
            · rename_i j hj
              unfold semLix at hj
              simp only at hj
              split at hj
              · rename_i hz
                simp only [Bool.and_eq_true] at hz
                cases hf : ds.findIdx? fun z => PyData.eqv z r2.d with
                | none => rw [hf] at hj; cases hj
                | some jn =>
                  rw [hf] at hj
                  cases hj
                  obtain ⟨hlt, h5, h6⟩ := List.findIdx?_eq_some_iff_getElem.mp hf
                  have sx := sm_dts s2 s'
                  have dy : Dt H2 (Lm H0 M r2.m) v2 r2.d := rv2.cn.dt_sc hz.1
                  obtain ⟨zv, e1, t1⟩ := sx.get (List.getElem?_eq_getElem hlt)
                  have sc1 : ∀ z, z ∈ ds → sc z = true := List.all_eq_true.mp hz.2
                  refine ⟨l, xs, v2, jn, zv, rfl, rfl, .inl (sm_rd s2 r'), flat_sc dy hz.1, flats_sc sx hz.2, e1, ?_, fun n z' hn ez => ?_, q _ H2 (s1.trans s2) (.int _)⟩
                  · rw [eqV_sc t1 dy (sc1 _ (List.getElem_mem hlt)) hz.1]
                    exact h5
                  · obtain ⟨d', e2, t2⟩ := sx.getV ez
                    have hn2 : n < ds.length := by omega
                    rw [List.getElem?_eq_getElem hn2] at e2
                    cases e2
                    rw [eqV_sc t2 dy (sc1 _ (List.getElem_mem hn2)) hz.1]
                    simpa using h6 n hn
              · cases hj
            · exact q.elim
        · exact q.elim) fun _ => rfl
    · cases h
  | .srk a f, X, E, e, ok, h => by
    simp only [okE] at h
    split at h
    · simp only [Bool.and_eq_true, decide_eq_true_eq] at h
      obtain ⟨⟨⟨⟨⟨rfl, h1⟩, rfl⟩, rfl⟩, h2⟩, h3⟩ := h
      cases hΓ : Γ f with
      | none =>
        refine ⟨⟨fun pins s σ H Q I ⟨H0, M0, M, env, eo, q⟩ => ?_⟩, ⟨fun pins s σ H Q I ⟨H0, M0, M, env, eo, q⟩ => ?_⟩⟩
        · simp only [evE, hΓ] at q
          exact q.elim
        · simp only [evE, hΓ] at q
          exact q.elim
      | some p =>
        obtain ⟨n, g⟩ := p
        obtain ⟨fa, fd, ps, F, mf, kf, bf⟩ := ok.fns f n g hΓ
        refine mkE ((pe_srk F ok.room bf (gl_of h1).1 (ok.blt _ (by decide)) (gl_of h2).1 (gl_of h2).2 mf (sE a _ ok h3).1 (star_cons h3 _ _)).imp fun σ H Q ⟨H0, M0, M, env, eo, q⟩ => by
          simp only [evE, hΓ] at q
          split at q
          · rename_i hn
            subst hn
            refine ⟨H0, M0, M, env, eo, (Rp.bind q).imp fun r _ q v H1 s1 rv => ?_⟩
            split at q
            · rename_i ds hd
              have c := rv.cn
              rw [hd] at c
              cases c with
              | @lst l xs _ r' s' =>
                cases ek : keysR g ds with
                | bad => rw [ek] at q; exact q.elim
                | err x => exact absurd ek (keysR_ne _ _ _)
                | ok ks =>
                  rw [ek] at q
                  have q := Rp.ok q
                  exact srk_data (eo.up s1) s1 r' s' ek q
            · exact q.elim
          · exact q.elim) fun _ => rfl
    · cases h
  | .rvl a, X, E, e, ok, h => by
    simp only [okE] at h
    split at h
    · simp only [Bool.and_eq_true, decide_eq_true_eq] at h
      obtain ⟨⟨⟨⟨rfl, h1⟩, rfl⟩, h2⟩, h3⟩ := h
      refine mkE ((pe_lstRev ok.calm (gl_of h1).1 (ok.blt _ (by decide)) (gl_of h2).1 (ok.blt _ (by decide)) (sE a _ ok h3).1 (star_cons h3 _ _) (by rfl)).imp fun σ H Q ⟨H0, M0, M, env, eo, q⟩ => by
        simp only [evE] at q
        refine ⟨H0, M0, M, env, eo, (Rp.bind q).imp fun r _ q v H1 s1 rv => ?_⟩
        split at q
        · rename_i ds hd
          have q := Rp.ok q
          have c := rv.cn
          rw [hd] at c
          cases c with
          | @lst a xs _ r' s' =>
            refine ⟨a, xs, rfl, .inl r', fun p hp => ?_⟩
            exact q _ _ (s1.trans (same_new hp)) (zn_rv (m := r.m) (eo.up s1) s1 (zn_new hp s'.reverse))
        · exact q.elim) fun _ => rfl
    · cases h
  | .lr a b, X, E, e, ok, h => by
    simp only [okE] at h
    split at h
    · simp only [Bool.and_eq_true, decide_eq_true_eq] at h
      obtain ⟨⟨⟨⟨⟨rfl, h1⟩, rfl⟩, h2⟩, h3⟩, h4⟩ := h
      cases b with
      | so _ => simp [okO] at h4
      | no =>
      cases a with
      | no => simp [okO] at h3
      | so a =>
      have h3 : okE X.N X.env.scope a _ = true := h3
      refine mkE ((pe_listRg ok.calm (gl_of h1).1 (ok.blt _ (by decide)) (prg_1 (gl_of h2).1 (ok.blt _ (by decide)) (sE a _ ok h3).1 (star_cons h3 _ _)) (by rfl)).imp fun σ H Q ⟨H0, M0, M, env, eo, q⟩ => by
        simp only [evE, evO] at q
        refine ⟨H0, M0, M, env, eo, (Rp.bind (Rp.bind q)).imp fun r _ q v H1 s1 rv => ?_⟩
        split at q
        · rename_i n hn
          replace q := Rp.ok q
          dsimp only [R.bind] at q
          split at q
          · rename_i hz
            simp only [Bool.and_eq_true, decide_eq_true_eq, sm] at hz
            refine ⟨n, sc_sc rv hn, ⟨by decide, by decide, hz.1.1, hz.1.2, by simpa using hz.2⟩, fun p hp => ?_⟩
            refine q _ _ (s1.trans (same_new hp)) ⟨p, rfl, s1.free hp, ((eo.up s1).fresh hp).1, ((eo.up s1).fresh hp).2, .lst upd_same ?_⟩
            exact rg_dts 0 n _ (by simp)
          · exact q.elim
        · exact q.elim) fun _ => rfl
    · simp only [Bool.and_eq_true, decide_eq_true_eq] at h
      obtain ⟨⟨⟨⟨⟨rfl, h1⟩, rfl⟩, h2⟩, h3⟩, h4⟩ := h
      cases b with
      | no => simp [okO] at h4
      | so b =>
      cases a with
      | no => simp [okO] at h3
      | so a =>
      have h3 : okE X.N X.env.scope a _ = true := h3
      have h4 : okE X.N X.env.scope b _ = true := h4
      refine mkE ((pe_listRg ok.calm (gl_of h1).1 (ok.blt _ (by decide)) (prg_2 (gl_of h2).1 (ok.blt _ (by decide)) (sE a _ ok h3).1 (sE b _ ok h4).1 (star_cons h3 _ _) (star_cons h4 _ _) (by rw [star_cons h4 _ _]; rfl)) (by rfl)).imp fun σ H Q ⟨H0, M0, M, env, eo, q⟩ => by
        simp only [evE, evO] at q
        refine ⟨H0, M0, M, env, eo, (Rp.bind (Rp.bind q)).imp fun r _ q v H1 s1 rv => ?_⟩
        split at q
        · rename_i i hi
          replace q := Rp.ok q
          dsimp only [R.bind] at q
          refine ⟨H0, M0, M, env, eo.up s1, ((Rp.bind (Rp.bind q)).same s1).imp fun r2 _ q u H2 s2 rv2 => ?_⟩
          split at q
          · rename_i j hj
            replace q := Rp.ok q
            dsimp only [R.bind] at q
            split at q
            · rename_i hz
              simp only [Bool.and_eq_true, decide_eq_true_eq, sm] at hz
              refine ⟨i, j, sc_sc rv hi, sc_sc rv2 hj, ⟨hz.1.1.1, hz.1.1.2, hz.1.2.1, hz.1.2.2, hz.2⟩, fun p hp => ?_⟩
              have s12 := s1.trans s2
              refine q _ _ (s12.trans (same_new hp)) ⟨p, rfl, s12.free hp, ((eo.up s12).fresh hp).1, ((eo.up s12).fresh hp).2, .lst upd_same ?_⟩
              exact rg_dts i j _ rfl
            · exact q.elim
          · exact q.elim
        · exact q.elim) fun _ => rfl
    · cases h
  | .lc g it c elt, X, E, e, ok, h => by
    simp only [okE] at h
    split at h
    · rename_i x tg iter ifs scope pos
      simp only [Bool.and_eq_true] at h
      obtain ⟨⟨⟨⟨h1, h2⟩, h3⟩, h4⟩, h5⟩ := h
      refine mkE ?_ fun _ => rfl
      have hi := sI it tg iter ok h3
      have hown : (ownOf X.N g).map (·.2) = idx g := by
        unfold ownOf
        rw [List.map_map]
        exact List.map_id'' (fun _ => rfl) _
      have P := pe_lc (te := tE Γ (fun _ _ _ => False) X.mg elt) (tt := tC Γ (fun _ _ _ => False) X.mg c) (g := gOf X g) (pos := pos) ok.calm ok.nd hi (blkOk_by h1)
        (fun s H C cl fp => g_ok (X := X.blk s H scope (compEnvC scope cl C X.env) fp) ok.nd ok.calm fnIn_blk h2)
        (fun s H C cl fp => sC c ifs (ok_blk ok) h4) (fun s H C cl fp => (sE elt x (ok_blk ok) h5).1) (no_setI h3)
      rw [hown] at P
      exact P.imp lc_imp
    · cases h
theorem sEs : ∀ (ms : MEs) {X : Cx} {E : XK} (es : List Expr), Ok X Γ E k → okEs X.N X.env.scope ms es = true → PA X es (tEs Γ E X.mg ms) ∧
    (∀ con, es ≠ [] → ∀ pos, PE X (.BoolOp (bOp con) es pos) (tBv Γ E X.mg con ms) ∧ PW X (.BoolOp (bOp con) es pos) (tBt Γ E X.mg con ms))
  | .nil, X, E, es, ok, h => by
    simp only [okEs] at h
    split at h
    · exact ⟨pa_nil.imp fun σ H Q ⟨H0, M0, M, env, eo, q⟩ => q [] H (Same.refl _) .nil, fun _ z => absurd rfl z⟩
    · cases h
  | .cons m ms, X, E, es, ok, h => by
    simp only [okEs] at h
    split at h
    · rename_i e r
      simp only [Bool.and_eq_true] at h
      obtain ⟨h1, h2⟩ := h
      obtain ⟨p1, p2⟩ := sE m e ok h1
      obtain ⟨q1, q2⟩ := sEs ms r ok h2
      refine ⟨(pa_cons p1 q1 (star_cons h1 _ _)).imp fun σ H Q ⟨H0, M0, M, env, eo, q⟩ => ?_, fun con _ pos => ?_⟩
      · simp only [evEs] at q
        exact ⟨H0, M0, M, env, eo, (Rp.bind q).imp fun x _ q v H1 s1 rv => ⟨H0, M0, M, env, eo.up s1, ((Rp.bind q).same s1).imp fun xs _ q vs H2 s2 rvs => q _ H2 (s1.trans s2) (.cons (rv.same s2) (rvs.back s1))⟩⟩
      · cases r with
        | nil =>
          have hm := okEs_nil h2
          subst hm
          have i : ∀ (σ : L2.St) (H : Hp) (Q : Bool → Hp → Prop), tBt Γ E X.mg con (.cons m .nil) σ H Q → tT Γ E X.mg m σ H Q := fun σ H Q ⟨H0, M0, M, env, eo, q⟩ => by
            simp only [evB] at q
            exact ⟨H0, M0, M, env, eo, q⟩
          refine ⟨(pe_one p1).imp fun σ H Q ⟨H0, M0, M, env, eo, q⟩ => ?_, ?_⟩
          · simp only [evB] at q
            refine ⟨H0, M0, M, env, eo, (Rp.bind q).imp fun r _ q v H1 s1 rv => ?_⟩
            obtain ⟨b', rfl, q⟩ := rp_truth q rv
            exact q H1 s1
          · cases con with
            | true => exact (pw_and1 p2).imp i
            | false => exact (pw_or1 p2).imp i
        | cons y ys =>
          obtain ⟨b1, b2⟩ := q2 con (by simp) pos
          cases ms with
          | nil => simp [okEs] at h2
          | cons m2 ms2 =>
          have iv : ∀ (σ : L2.St) (H : Hp) (Q : VK), tBv Γ E X.mg con (.cons m (.cons m2 ms2)) σ H Q → tE Γ E X.mg m σ H fun x H1 => ∃ c, x = .bl c ∧ if c = con then tBv Γ E X.mg con (.cons m2 ms2) σ H1 Q else Q (.bl c) H1 := fun σ H Q ⟨H0, M0, M, env, eo, q⟩ => by
            simp only [evB] at q
            refine ⟨H0, M0, M, env, eo, (Rp.bind (Rp.bind q)).imp fun r _ q v H1 s1 rv => ?_⟩
            obtain ⟨c, rfl, q⟩ := rp_truth q rv
            refine ⟨c, rfl, ?_⟩
            by_cases hc : c = con
            · rw [if_pos hc] at q ⊢
              exact ⟨H0, M0, M, env, eo.up s1, (Rp.same q s1).imp fun b _ q H2 s2 => q H2 (s1.trans s2)⟩
            · rw [if_neg hc] at q ⊢
              exact q H1 s1
          have it : ∀ (σ : L2.St) (H : Hp) (Q : Bool → Hp → Prop), tBt Γ E X.mg con (.cons m (.cons m2 ms2)) σ H Q → tT Γ E X.mg m σ H fun c H1 => if c = con then tBt Γ E X.mg con (.cons m2 ms2) σ H1 Q else Q c H1 := fun σ H Q ⟨H0, M0, M, env, eo, q⟩ => by
            simp only [evB] at q
            refine ⟨H0, M0, M, env, eo, (Rp.bind q).imp fun c _ q H1 s1 => ?_⟩
            by_cases hc : c = con
            · rw [if_pos hc] at q ⊢
              exact ⟨H0, M0, M, env, eo.up s1, (Rp.same q s1).imp fun b _ q H2 s2 => q H2 (s1.trans s2)⟩
            · rw [if_neg hc] at q ⊢
              exact q H1 s1
          cases con with
          | true =>
            refine ⟨(pe_and p1 b1).imp fun σ H Q q => ?_, (pw_and p2 b2).imp fun σ H Q q => ?_⟩
            · obtain ⟨H0, M0, M, env, eo, q⟩ := iv σ H Q q
              refine ⟨H0, M0, M, env, eo, q.imp fun r _ q v H1 s1 rv => ?_⟩
              obtain ⟨c, rfl, q⟩ := q v H1 s1 rv
              refine ⟨c, rfl, ?_⟩
              cases c with
              | true => exact q
              | false => exact q
            · obtain ⟨H0, M0, M, env, eo, q⟩ := it σ H Q q
              refine ⟨H0, M0, M, env, eo, q.imp fun c _ q H1 s1 => ?_⟩
              have q := q H1 s1
              cases c with
              | true => exact q
              | false => exact q
          | false =>
            refine ⟨(pe_or p1 b1).imp fun σ H Q q => ?_, (pw_or p2 b2).imp fun σ H Q q => ?_⟩
            · obtain ⟨H0, M0, M, env, eo, q⟩ := iv σ H Q q
              refine ⟨H0, M0, M, env, eo, q.imp fun r _ q v H1 s1 rv => ?_⟩
              obtain ⟨c, rfl, q⟩ := q v H1 s1 rv
              refine ⟨c, rfl, ?_⟩
              cases c with
              | true => exact q
              | false => exact q
            · obtain ⟨H0, M0, M, env, eo, q⟩ := it σ H Q q
              refine ⟨H0, M0, M, env, eo, q.imp fun c _ q H1 s1 => ?_⟩
              have q := q H1 s1
              cases c with
              | true => exact q
              | false => exact q
    · cases h
theorem sO : ∀ (m : MO) {X : Cx} {E : XK} (o : Option Expr), Ok X Γ E k → okO X.N X.env.scope m o = true → PO X o (tO Γ E X.mg m)
  | .no, X, E, o, ok, h => by
    simp only [okO] at h
    split at h
    · exact po_none.imp fun σ H Q ⟨H0, M0, M, env, eo, q⟩ => q H (Same.refl _)
    · cases h
  | .so m, X, E, o, ok, h => by
    simp only [okO] at h
    split at h
    · refine (po_some (sE m _ ok h).1).imp fun σ H Q ⟨H0, M0, M, env, eo, q⟩ => ?_
      simp only [evO] at q
      refine ⟨H0, M0, M, env, eo, (Rp.bind q).imp fun r _ q v H1 s1 rv => ?_⟩
      split at q
      · rename_i i hi
        exact ⟨i, sc_sc rv hi, q H1 s1⟩
      · exact q.elim
    · cases h
theorem sC : ∀ (m : MO) {X : Cx} {E : XK} (o : List Expr), Ok X Γ E k → okC X.N X.env.scope m o = true → PTs X o (tC Γ E X.mg m)
  | .no, X, E, o, ok, h => by
    simp only [okC] at h
    split at h
    · exact ⟨fun pins s σ H Q I ⟨H0, M0, M, env, eo, q⟩ => pts_nil.run pins s σ H Q I (q H (Same.refl _))⟩
    · cases h
  | .so m, X, E, o, ok, h => by
    simp only [okC] at h
    split at h
    · refine ⟨fun pins s σ H Q I ⟨H0, M0, M, env, eo, q⟩ => (pts_one (sE m _ ok h).2).run pins s σ H Q I ⟨H0, M0, M, env, eo, ?_⟩⟩
      simp only [evC] at q
      exact q
    · cases h
theorem sI : ∀ (it : MI) {X : Cx} {E : XK} (tg iter : Expr), Ok X Γ E k → okI X.N X.env.scope it tg iter = true → PI X tg iter (tI Γ E X.mg it)
  | .e a, X, E, tg, iter, ok, h => by
    simp only [okI] at h
    refine (pi_val (sE a _ ok h).1).imp fun σ H R ⟨H0, M0, M, env, eo, q⟩ => ?_
    simp only [evI] at q
    refine ⟨H0, M0, M, env, eo, (Rp.bind q).imp fun r _ q v H1 s1 rv => ?_⟩
    split at q
    · exact q.elim
    · rename_i hb
      have hb : isBo r = false := by simpa using hb
      split at q
      · rename_i ds hd
        have tp := rv_top rv hb
        have c := rv.cn
        have q : ∀ J H', Same H H' → Wk H' (Lm H0 M r.m) J ds → R J H' := q
        generalize r.d = d at hd tp c
        cases c <;> simp only [itemsOf, reduceCtorEq] at hd
        · cases hd
          exact .inr (.inr ⟨_, rfl, q _ H1 s1 (wk_str _)⟩)
        · rename_i r' s'
          cases hd
          exact .inl ⟨_, _, rfl, .inl r', q _ H1 s1 (wk_list r' (tp _ rfl ⟨_, rfl⟩) s')⟩
        · rename_i r' s'
          cases hd
          exact .inr (.inl ⟨_, _, rfl, .inl r', q _ H1 s1 (wk_tup r' s')⟩)
      · exact q.elim
  | .r1 a, X, E, tg, iter, ok, h => by
    simp only [okI] at h
    split at h
    · simp only [Bool.and_eq_true, decide_eq_true_eq] at h
      obtain ⟨⟨rfl, h1⟩, h2⟩ := h
      refine (pi_range1 (gl_of h1).1 (ok.blt _ (by decide)) (pa_cons (sE a _ ok h2).1 pa_nil (star_cons h2 _ _)) (star_cons h2 _ _)).imp fun σ H R ⟨H0, M0, M, env, eo, q⟩ => ?_
      simp only [evI] at q
      refine ⟨H0, M0, M, env, eo, (Rp.bind q).imp fun r _ q v H1 s1 rv => ?_⟩
      split at q
      · rename_i n hn
        split at q
        · rename_i hz
          simp only [Bool.and_eq_true, decide_eq_true_eq, sm] at hz
          exact ⟨n, by rw [sc_sc rv hn], hz.1, hz.2, q _ H1 s1 (wk_rng 0 n.toNat)⟩
        · exact q.elim
      · exact q.elim
    · cases h
  | .r2 a b, X, E, tg, iter, ok, h => by
    simp only [okI] at h
    split at h
    · simp only [Bool.and_eq_true, decide_eq_true_eq] at h
      obtain ⟨⟨⟨rfl, h1⟩, h2⟩, h3⟩ := h
      refine (pi_range2 (gl_of h1).1 (ok.blt _ (by decide)) (pa_cons (sE a _ ok h2).1 (pa_cons (sE b _ ok h3).1 pa_nil (star_cons h3 _ _)) (star_cons h2 _ _)) (by rw [star_cons h2, star_cons h3]; rfl) (star_cons h3 _ _)).imp fun σ H R ⟨H0, M0, M, env, eo, q⟩ => ?_
      simp only [evI] at q
      refine ⟨H0, M0, M, env, eo, (Rp.bind q).imp fun r _ q v H1 s1 rv => ⟨H0, M0, M, env, eo.up s1, ((Rp.bind q).same s1).imp fun r2 _ q u H2 s2 rv2 => ?_⟩⟩
      split at q
      · rename_i i j hi hj
        split at q
        · rename_i hz
          simp only [Bool.and_eq_true, decide_eq_true_eq, sm] at hz
          exact ⟨i, j, by rw [sc_sc rv hi, sc_sc rv2 hj], ⟨hz.1.1, hz.1.2, hz.2.1, hz.2.2⟩, q _ H2 (s1.trans s2) (wk_rng i (j - i).toNat)⟩
        · exact q.elim
      · exact q.elim
    · cases h
  | .r3 a b c, X, E, tg, iter, ok, h => by
    simp only [okI] at h
    split at h
    · simp only [Bool.and_eq_true, decide_eq_true_eq] at h
      obtain ⟨⟨⟨⟨rfl, h1⟩, h2⟩, h3⟩, h4⟩ := h
      refine (pi_range3 (gl_of h1).1 (ok.blt _ (by decide)) (pa_cons (sE a _ ok h2).1 (pa_cons (sE b _ ok h3).1 (pa_cons (sE c _ ok h4).1 pa_nil (star_cons h4 _ _)) (star_cons h3 _ _)) (star_cons h2 _ _)) (star_cons h2 _ _) (back_any _ _ (by rw [star_cons h3, star_cons h4]; rfl))).imp fun σ H R ⟨H0, M0, M, env, eo, q⟩ => ?_
      simp only [evI] at q
      refine ⟨H0, M0, M, env, eo, (Rp.bind q).imp fun r _ q v H1 s1 rv => ⟨H0, M0, M, env, eo.up s1, ((Rp.bind q).same s1).imp fun r2 _ q u H2 s2 rv2 => ⟨H0, M0, M, env, eo.up (s1.trans s2), ((Rp.bind q).same (s1.trans s2)).imp fun r3 _ q u3 H3 s3 rv3 => ?_⟩⟩⟩
      split at q
      · rename_i i j l hi hj hl
        split at q
        · rename_i hz
          simp only [Bool.and_eq_true, decide_eq_true_eq, sm] at hz
          obtain ⟨⟨⟨z1, z2⟩, z3, z4⟩, rfl⟩ := hz
          exact ⟨i, j, -1, (i - j).toNat, by rw [sc_sc rv hi, sc_sc rv2 hj, sc_sc rv3 hl], RgC.neg z1 z2 z3 z4, q _ H3 ((s1.trans s2).trans s3) (wk_rngC i (-1) (i - j).toNat)⟩
        · exact q.elim
      · exact q.elim
    · cases h
  | .zip a b, X, E, tg, iter, ok, h => by
    simp only [okI] at h
    split at h
    · simp only [Bool.and_eq_true, decide_eq_true_eq] at h
      obtain ⟨⟨⟨⟨rfl, ht⟩, h1⟩, h2⟩, h3⟩ := h
      cases tg <;> simp only [isTup, Bool.false_eq_true] at ht
      refine (pi_z2 (gl_of h1).1 (ok.blt _ (by decide)) (pa_cons (sE a _ ok h2).1 (pa_cons (sE b _ ok h3).1 pa_nil (star_cons h3 _ _)) (star_cons h2 _ _)) (star_cons h2 _ _) (back_any _ _ (by rw [star_cons h3]; rfl))).imp fun σ H R ⟨H0, M0, M, env, eo, q⟩ => ?_
      simp only [evI] at q
      refine ⟨H0, M0, M, env, eo, (Rp.bind q).imp fun r _ q v H1 s1 rv => ⟨H0, M0, M, env, eo.up s1, ((Rp.bind q).same s1).imp fun r2 _ q u H2 s2 rv2 => ?_⟩⟩
      split at q
      · exact q.elim
      · rename_i hb
        simp only [Bool.or_eq_true, not_or, Bool.not_eq_true] at hb
        split at q
        · rename_i ds es hd he
          obtain ⟨xs, G1, S1, t1, g1, k1⟩ := rp_src (rv.same s2) hb.1 hd
          obtain ⟨ys, G2, S2, t2, g2, k2⟩ := rp_src rv2 hb.2 he
          exact ⟨v, u, xs, ys, G1, G2, rfl, S1, S2, g1, g2, q _ H2 (s1.trans s2) (wk_z2 (t1.wk fun _ => Lm.orl) (t2.wk fun _ => Lm.orr) (fun H' L2 k => k1 H' L2 ⟨fun a u l e => k.1 a u l.orl e, k.2⟩) (fun H' L2 k => k2 H' L2 ⟨fun a u l e => k.1 a u l.orr e, k.2⟩))⟩
        · exact q.elim
    · cases h
  | .zip3 a b c, X, E, tg, iter, ok, h => by
    simp only [okI] at h
    split at h
    · simp only [Bool.and_eq_true, decide_eq_true_eq] at h
      obtain ⟨⟨⟨⟨⟨rfl, ht⟩, h1⟩, h2⟩, h3⟩, h4⟩ := h
      cases tg <;> simp only [isTup, Bool.false_eq_true] at ht
      refine (pi_z3 (gl_of h1).1 (ok.blt _ (by decide)) (pa_cons (sE a _ ok h2).1 (pa_cons (sE b _ ok h3).1 (pa_cons (sE c _ ok h4).1 pa_nil (star_cons h4 _ _)) (star_cons h3 _ _)) (star_cons h2 _ _)) (star_cons h2 _ _) (back_any _ _ (by rw [star_cons h3, star_cons h4]; rfl))).imp fun σ H R ⟨H0, M0, M, env, eo, q⟩ => ?_
      simp only [evI] at q
      refine ⟨H0, M0, M, env, eo, (Rp.bind q).imp fun r _ q v H1 s1 rv => ⟨H0, M0, M, env, eo.up s1, ((Rp.bind q).same s1).imp fun r2 _ q u H2 s2 rv2 => ⟨H0, M0, M, env, eo.up (s1.trans s2), ((Rp.bind q).same (s1.trans s2)).imp fun r3 _ q u3 H3 s3 rv3 => ?_⟩⟩⟩
      split at q
      · exact q.elim
      · rename_i hb
        simp only [Bool.or_eq_true, not_or, Bool.not_eq_true] at hb
        split at q
        · rename_i ds es fs hd he hf
          obtain ⟨xs, G1, S1, t1, g1, k1⟩ := rp_src (rv.same (s2.trans s3)) hb.1.1 hd
          obtain ⟨ys, G2, S2, t2, g2, k2⟩ := rp_src (rv2.same s3) hb.1.2 he
          obtain ⟨zs, G3, S3, t3, g3, k3⟩ := rp_src rv3 hb.2 hf
          exact ⟨v, u, u3, xs, ys, zs, G1, G2, G3, rfl, S1, S2, S3, g1, g2, g3, q _ H3 ((s1.trans s2).trans s3) (wk_z3 (t1.wk fun _ l => l.orl.orl) (t2.wk fun _ l => l.orr.orl) (t3.wk fun _ => Lm.orr)
            (fun H' L2 k => k1 H' L2 ⟨fun a u l e => k.1 a u l.orl.orl e, k.2⟩) (fun H' L2 k => k2 H' L2 ⟨fun a u l e => k.1 a u l.orr.orl e, k.2⟩) (fun H' L2 k => k3 H' L2 ⟨fun a u l e => k.1 a u l.orr e, k.2⟩))⟩
        · exact q.elim
    · cases h
  | .enum a, X, E, tg, iter, ok, h => by
    simp only [okI] at h
    split at h
    · simp only [Bool.and_eq_true, decide_eq_true_eq] at h
      obtain ⟨⟨⟨rfl, ht⟩, h1⟩, h2⟩ := h
      cases tg <;> simp only [isTup, Bool.false_eq_true] at ht
      refine (pi_en (gl_of h1).1 (ok.blt _ (by decide)) (pa_cons (sE a _ ok h2).1 pa_nil (star_cons h2 _ _)) (star_cons h2 _ _)).imp fun σ H R ⟨H0, M0, M, env, eo, q⟩ => ?_
      simp only [evI] at q
      refine ⟨H0, M0, M, env, eo, (Rp.bind q).imp fun r _ q v H1 s1 rv => ?_⟩
      split at q
      · exact q.elim
      · rename_i hb
        have hb : isBo r = false := by simpa using hb
        split at q
        · rename_i ds hd
          have tp := rv_top rv hb
          have c := rv.cn
          rw [hd] at c
          cases c with
          | lst r' s' => exact .inl ⟨_, _, rfl, r', q _ H1 s1 (wk_en s' fun H' L2 k => k.rd (tp _ rfl ⟨_, hd⟩) r')⟩
        · rename_i z hd
          have c := rv.cn
          rw [hd] at c
          cases c
          refine .inr ⟨z, rfl, q _ H1 s1 (wk_en ?_ fun _ _ _ => trivial)⟩
          unfold signsV
          generalize z.cps.toList = l
          induction l with
          | nil => exact .nil
          | cons c l ih => exact .cons (.str _) ih
        · exact q.elim
    · cases h
  | .rev a, X, E, tg, iter, ok, h => by
    simp only [okI] at h
    split at h
    · simp only [Bool.and_eq_true, decide_eq_true_eq] at h
      obtain ⟨⟨rfl, h1⟩, h2⟩ := h
      refine (pi_reversed (gl_of h1).1 (ok.blt _ (by decide)) (pa_cons (sE a _ ok h2).1 pa_nil (star_cons h2 _ _)) (star_cons h2 _ _)).imp fun σ H R ⟨H0, M0, M, env, eo, q⟩ => ?_
      simp only [evI] at q
      refine ⟨H0, M0, M, env, eo, (Rp.bind q).imp fun r _ q v H1 s1 rv => ?_⟩
      split at q
      · exact q.elim
      · rename_i hb
        have hb : isBo r = false := by simpa using hb
        split at q
        · rename_i ds hd
          have tp := rv_top rv hb
          have c := rv.cn
          rw [hd] at c
          cases c with
          | lst r' s' => exact ⟨_, _, rfl, .inl r', q _ H1 s1 (wk_rev r' (tp _ rfl ⟨_, hd⟩) s')⟩
        · exact q.elim
    · cases h
end
end
end En

set_option Elab.async false
set_option linter.all false
set_option maxRecDepth 100000
set_option maxHeartbeats 4000000
namespace En
open PySem PySem.Spec PyProof.Rows L2
theorem sz (n : Nat) (h : n ≤ 16777216) : n ≤ sizeLine := by rw [sizeLine_eq]; exact h
theorem slt {n : Nat} (h : n < 16777216) : n < sizeLine := by rw [sizeLine_eq]; exact h
theorem attr_name {x f : Str} {p : Pos} {env : Env} : attributeBase (.Name x p) f env (eval (.Name x p) env) = eval (.Name x p) env := rfl

/-! ### what a caught thing is -/
section
variable {X : Cx} {a D : Addr} {oe : Obj}
theorem inst_at {pins : List (Addr × Obj)} {σ : L2.St} {H : Hp} {s : Shared} (I : Inv X pins σ H s) (hp : (a, oe) ∈ X.pn) (hz : Zc (.ref D) none oe) (hf : ∃ vs, oe.data = .fields vs) : PySem.W.InstAt s.heap a oe D none := by
  obtain ⟨hget, _⟩ := I.pin (a, oe) (List.mem_append.mpr (.inl hp))
  obtain ⟨vs, hv⟩ := hf
  obtain ⟨oc, od, oda, osl⟩ := oe
  obtain ⟨h1, h2⟩ := hz
  dsimp only at h1 h2 hv
  subst h1 h2 hv
  exact ⟨hget, rfl, rfl, trivial⟩
theorem call_isX (C : ExcC X.K D) (hp : (a, oe) ∈ X.pn) (hz : Zc (.ref D) none oe) (hf : ∃ vs, oe.data = .fields vs) : CallR X (.builtin "isinstance") (rIsE X.K D a) := by
  intro pins s σ H xs us Q I r h
  obtain ⟨c, cv, b, rfl, hcv, e, q⟩ := h
  obtain ⟨u1, u2, rfl, r1, r2⟩ := vals2 r
  cases (show u1 = Value.ref a from r1)
  obtain rfl := hcv _ r2
  exact PySem.W.kia_one (PySem.W.handS_kitx_exc C.hg C.hk C.hs C.hd C.ha C.hn C.ht C.hm) I.kIn (inst_at I hp hz hf) e (fun z => nomatch z) fun tk => ⟨.bl b, H, I.kept (t' := tk) fun _ _ z => z, rfl, q⟩
def rIsXT (K : PySem.W.Frag) (D a : Addr) : List V → Hp → VK → Prop := fun xs H Q => ∃ (tp : Addr) (cs : List V) (us : List Value) (b : Bool), xs = [.ref a, .ref tp] ∧ H tp = some (.tup cs) ∧ (∀ ws, Vals cs ws → ws = us) ∧ PySem.W.kitAny K (.ref D) us = some b ∧ Q (.bl b) H
theorem call_isXT (C : ExcC X.K D) (hp : (a, oe) ∈ X.pn) (hz : Zc (.ref D) none oe) (hf : ∃ vs, oe.data = .fields vs) : CallR X (.builtin "isinstance") (rIsXT X.K D a) := by
  intro pins s σ H xs us Q I r h
  obtain ⟨tp, cs, ws, b, rfl, hT, hcs, e, q⟩ := h
  obtain ⟨u1, u2, rfl, r1, r2⟩ := vals2 r
  cases (show u1 = Value.ref a from r1)
  cases (show u2 = Value.ref tp from r2)
  obtain ⟨_, its, rv, o, h1, h2, n, h3⟩ := (show ObjOk X.prog X.w H s.heap tp (.tup cs) from I.hok tp _ hT)
  obtain rfl := hcs _ rv
  obtain ⟨oc, od, dt, sl⟩ := o
  simp only at h2 h3
  subst h2 h3
  exact PySem.W.kia_tup (PySem.W.handS_kitx_exc C.hg C.hk C.hs C.hd C.ha C.hn C.ht C.hm) I.kIn (inst_at I hp hz hf) h1 e (fun z => nomatch z) fun tk => ⟨.bl b, H, I.tok tk, rfl, q⟩
end
def okCs (sc : Scope) : List Str → List Expr → Bool
  | [], es => match es with | [] => true | _ => false
  | c :: cs, es => match es with | .Name y _ :: r => decide (y = c) && glOk sc c && decide (c ≠ "__name__") && okCs sc cs r | _ => false
mutual
def okWT (N : List Str) (sc : Scope) (i : Nat) : WT → Expr → Bool
  | .is c, e => match e with | .Call (.Name f _) [.Name x _, .Name y _] [] _ => decide (f = "isinstance") && glOk sc f && slotOk N sc i x && decide (y = c) && glOk sc c && decide (c ≠ "__name__") | _ => false
  | .tup cs, e => match e with | .Call (.Name f _) [.Name x _, .Tuple es _ _] [] _ => decide (f = "isinstance") && glOk sc f && slotOk N sc i x && okCs sc cs es && decide (cs.length ≤ 16777216) | _ => false
  | .or ts, e => match e with | .BoolOp .Or es _ => okWTs N sc i ts es | _ => false
  | .not t, e => match e with | .UnaryOp .Not a _ => okWT N sc i t a | _ => false
def okWTs (N : List Str) (sc : Scope) (i : Nat) : WTs → List Expr → Bool
  | .one t, es => match es with | [e] => okWT N sc i t e | _ => false
  | .cons t ts, es => match es with | e :: e2 :: r => okWT N sc i t e && okWTs N sc i ts (e2 :: r) | _ => false
end
def evCs (val : Str → Option Bool) : List Str → Option Bool
  | [] => some false
  | c :: cs => match val c, evCs val cs with
    | some b, some r => some (b || r)
    | _, _ => none
mutual
def evWT (val : Str → Option Bool) : WT → Option Bool
  | .is c => val c
  | .tup cs => evCs val cs
  | .or ts => evWTs val ts
  | .not t => (evWT val t).map (!·)
def evWTs (val : Str → Option Bool) : WTs → Option Bool
  | .one t => evWT val t
  | .cons t ts => match evWT val t with
    | some true => some true
    | some false => evWTs val ts
    | none => none
end
/-- what the classes' names tell of D -/
def ValOk (mg : Str → Option Value) (K : PySem.W.Frag) (D : Addr) (val : Str → Option Bool) : Prop :=
  ∀ c b, val c = some b → ∃ (v : V) (cv : Value), (mg c = some cv ∨ (mg c = none ∧ bootBuiltins c = some cv)) ∧ RelV v cv ∧ (∀ u, RelV v u → u = cv) ∧ PySem.W.kitOne K (.ref D) cv = some b
section
variable {X : Cx} {a D : Addr} {oe : Obj} {val : Str → Option Bool} {i : Nat}
theorem pe_cls {c : Str} {p : Pos} {v : V} {cv : Value} (h : X.mg c = some cv ∨ (X.mg c = none ∧ bootBuiltins c = some cv)) (r : RelV v cv) (hg : glOk X.env.scope c = true) (hn : c ≠ "__name__") : PE X (.Name c p) (L2.tC v) := by
  obtain ⟨g1, g2⟩ := gl_of hg
  rcases h with h | ⟨h1, h2⟩
  · exact pe_glob g1 h r g2
  · exact pe_bltn g1 h1 h2 r hn g2
theorem cs_ok (V1 : ValOk X.mg X.K D val) : ∀ (cs : List Str) (es : List Expr) (b : Bool), okCs X.env.scope cs es = true → evCs val cs = some b →
    ∃ (vs : List V) (us : List Value), PA X es (fun _ H Q => Q vs H) ∧ vs.length = cs.length ∧ (∀ ws, Vals vs ws → ws = us) ∧ PySem.W.kitAny X.K (.ref D) us = some b
  | [], es, b, h, e => by
    simp only [okCs] at h
    split at h
    · cases e
      exact ⟨[], [], pa_nil, rfl, fun ws r => by cases r; rfl, rfl⟩
    · cases h
  | c :: cs, es, b, h, e => by
    simp only [okCs] at h
    split at h
    · simp only [Bool.and_eq_true, decide_eq_true_eq] at h
      obtain ⟨⟨⟨rfl, h1⟩, h2⟩, h3⟩ := h
      unfold evCs at e
      split at e
      · rename_i b1 b2 e1 e2
        cases e
        obtain ⟨v, cv, hm, r, hu, hk⟩ := V1 _ _ e1
        obtain ⟨vs, us, p, hl, hus, hks⟩ := cs_ok V1 cs _ b2 h3 e2
        refine ⟨v :: vs, cv :: us, pa_cons (pe_cls hm r h1 h2) p, by simp [hl], fun ws r => ?_, ?_⟩
        · cases r with
          | cons r1 r2 => rw [hu _ r1, hus _ r2]
        · exact L2.kitAny_cons hk (fun z => by rw [z]; simpa using hks) (fun z => by rw [z]; rfl)
      · cases e
    · cases h
def tWT (val : Str → Option Bool) (i : Nat) (a : Addr) (t : WT) : TT := fun σ H Q => σ[i]? = some (some (.ref a)) ∧ ∃ b, evWT val t = some b ∧ ∀ H', Same H H' → Q b H'
def tWTs (val : Str → Option Bool) (i : Nat) (a : Addr) (t : WTs) : TT := fun σ H Q => σ[i]? = some (some (.ref a)) ∧ ∃ b, evWTs val t = some b ∧ ∀ H', Same H H' → Q b H'
variable (hi : X.mg "isinstance" = none) (C : ExcC X.K D) (hp : (a, oe) ∈ X.pn) (hz : Zc (.ref D) none oe) (hf : ∃ vs, oe.data = .fields vs) (V1 : ValOk X.mg X.K D val)
include hi C hp hz hf V1
mutual
theorem wt_ok : ∀ (t : WT) (e : Expr), okWT X.N X.env.scope i t e = true → PT X e (tWT val i a t)
  | .is c, e, h => by
    simp only [okWT] at h
    split at h
    · simp only [Bool.and_eq_true, decide_eq_true_eq] at h
      obtain ⟨⟨⟨⟨⟨rfl, h1⟩, h2⟩, rfl⟩, h3⟩, h4⟩ := h
      refine ⟨fun pins s σ H Q I ⟨hs, b, hb, q⟩ => ?_⟩
      obtain ⟨v, cv, hm, r, hu, hk⟩ := V1 _ _ hb
      refine PT.run (pt_val (pe_callB (call_isX C hp hz hf) (gl_of h1).1 hi (by decide +kernel) (pa_cons (pe_v h2) (pa_cons (pe_cls hm r h3 h4) pa_nil)))) pins s σ H Q I ?_
      refine ⟨.ref a, hs, v, cv, b, rfl, hu, hk, b, rfl, q H fun _ _ z => z⟩
    · cases h
  | .tup cs, e, h => by
    simp only [okWT] at h
    split at h
    · simp only [Bool.and_eq_true, decide_eq_true_eq] at h
      obtain ⟨⟨⟨⟨rfl, h1⟩, h2⟩, h3⟩, h4⟩ := h
      refine ⟨fun pins s σ H Q I ⟨hs, b, hb, q⟩ => ?_⟩
      obtain ⟨vs, us, p, hl, hu, hk⟩ := cs_ok V1 cs _ b h3 hb
      refine PT.run (pt_val (pe_callB (call_isXT C hp hz hf) (gl_of h1).1 hi (by decide +kernel) (pa_cons (pe_v h2) (pa_cons (pe_tup p) pa_nil)))) pins s σ H Q I ?_
      refine ⟨.ref a, hs, sz _ (by rw [hl]; exact h4), fun tp htp => ?_⟩
      exact ⟨tp, vs, us, b, rfl, upd_same, hu, hk, b, rfl, q _ (same_new htp)⟩
    · cases h
  | .or ts, e, h => by
    simp only [okWT] at h
    split at h
    · exact (wts_ok ts _ _ h).pt
    · cases h
  | .not t, e, h => by
    simp only [okWT] at h
    split at h
    · refine PT.imp (pt_not (wt_ok t _ h)) fun σ H Q ⟨hs, b, hb, q⟩ => ?_
      unfold evWT at hb
      cases e1 : evWT val t with
      | none => rw [e1] at hb; cases hb
      | some c =>
        rw [e1] at hb
        cases hb
        exact ⟨hs, c, e1, q⟩
    · cases h
theorem wts_ok : ∀ (ts : WTs) (es : List Expr) (p : Pos), okWTs X.N X.env.scope i ts es = true → PW X (.BoolOp .Or es p) (tWTs val i a ts)
  | .one t, es, p, h => by
    simp only [okWTs] at h
    split at h
    · exact (pw_or1 (wt_ok t _ h)).imp fun σ H Q ⟨hs, b, hb, q⟩ => ⟨hs, b, hb, q⟩
    · cases h
  | .cons t ts, es, p, h => by
    simp only [okWTs] at h
    split at h
    · simp only [Bool.and_eq_true] at h
      refine (pw_or (wt_ok t _ h.1) (wts_ok ts _ p h.2)).imp fun σ H Q ⟨hs, b, hb, q⟩ => ?_
      unfold evWTs at hb
      split at hb
      · rename_i e1
        cases hb
        exact ⟨hs, true, e1, fun H' sm => q H' sm⟩
      · rename_i e1
        refine ⟨hs, false, e1, fun H' sm => ?_⟩
        exact ⟨hs, b, hb, fun H2 sm2 => q H2 (sm.trans sm2)⟩
      · cases hb
    · cases h
end
end
/-! ### a def that tells in words what a caught thing is -/
section
variable {X : Cx} {a D : Addr} {oe : Obj} {val : Str → Option Bool} {i w : Nat}
variable (hi : X.mg "isinstance" = none) (C : ExcC X.K D) (hp : (a, oe) ∈ X.pn) (hz : Zc (.ref D) none oe) (hf : ∃ vs, oe.data = .fields vs) (V1 : ValOk X.mg X.K D val)
include hi C hp hz hf V1
end
/-! ### a def called within an except suite, with the thing that is handled -/
open L2H in
structure FnS (P : Program) (w : World) (K : PySem.W.Frag) (mg : Str → Option Value) (base : Heap) (CX : CXT) (k : Nat) (f : Addr) (fd : FuncData) (ps : List Str) (D : Addr) (z : Str) : Prop where
  len : ps.length = 1
  run : ∀ (A : Around) (outer : List Env) (s : Shared) (H : Hp) (args : Args) (Q : VK) (E : XK) (p : Addr × Obj), RoomH k A → PinOk outer H s p → Zc (.ref D) none p.2 → (∃ vs, p.2.data = .fields vs) → Env0 P w K mg base A outer s H → BindsTo s fd args (ps.zip [.ref p.1]) → (∀ H', Same H H' → Q (.str z) H') →
    codeAny (model P w) A (.call (.ref f) args) (CR CX outer P w H s Q E) s
open L2H in
section
open L2H
variable {X : Cx} {CX : CXT} {k : Nat} {f : Addr} {fd : FuncData} {ps : List Str} {D : Addr} {z : Str} {x y : Str} {p : Addr × Obj} {q q2 pos : Pos} {i : Nat}
/-- f(e), e the thing that the suite handles -/
theorem pe_callX (F : FnS X.prog X.w X.K X.mg X.base CX k f fd ps D z) (hr : RoomH k X.A) (hp : p ∈ X.pn) (hz : Zc (.ref D) none p.2) (hf : ∃ vs, p.2.data = .fields vs) (hg : Gl X x) (hdb : (x == ("__debug__" : Str)) = false) (hm : X.mg x = some (.ref f)) (hk : PySem.W.keepIn X.K (.ref f) = true) (hb : Binds X.K fd ps []) (hx : ∀ σ, PassesAt CX X σ (fun _ _ _ => False)) (hs : slotOk X.N X.env.scope i y = true) :
    PE X (.Call (.Name x q) [.Name y q2] [] pos) (fun σ H Q => σ[i]? = some (some (.ref p.1)) ∧ ∀ H', Same H H' → Q (.str z) H') := by
  refine ⟨fun pins s σ H Q I ⟨h1, h2⟩ => ?_⟩
  refine wpAny_Call_Name_kw (ld_glob I hg hm ?_ hdb)
  refine PySem.W.callWith_K (h₀ := X.base) I.ok.mod.kin hk (thn ((pa_cons (pe_v hs) pa_nil).run pos pins s σ H (fun vs H1 => vs = [.ref p.1] ∧ ∀ H', Same H1 H' → Q (.str z) H') I ⟨.ref p.1, h1, rfl, h2⟩) fun us s1 ⟨vs, H1, I1, r, e, q1⟩ => ⟨I1.kIn, ?_⟩) rfl rfl
  subst e
  obtain rfl := Vals.ref1 r
  have hl : ([Value.ref p.1] : List Value).length = ps.length := by rw [F.len]; rfl
  have b := hb s1 [.ref p.1] I1.kIn (by rw [List.append_nil]; exact hl)
  rw [List.append_nil] at b
  have P1 := I1.pin p (List.mem_append_left _ hp)
  have hpin : PinOk X.stack H1 s1 p := ⟨P1.1, P1.2.1, fun hm => (List.mem_cons.mp (I1.stkSub p.1 hm)).elim P1.2.2.1 P1.2.2.2.1, P1.2.2.2.2⟩
  refine wpAny_call (codeAny_mono (F.run X.A X.stack s1 H1 ⟨[.ref p.1], []⟩ Q (fun _ _ _ => False) p hr hpin hz hf I1.env0 b q1) fun r s' hq => ?_)
  cases r with
  | error e => exact hx σ pins H1 s1 e s' I1 hq
  | ok fl =>
    cases fl with
    | ret u => exact I1.after hq
    | next => exact False.elim hq
    | brk => exact False.elim hq
    | cont => exact False.elim hq
end
/-! ### a word def, by its text -/
section
variable {P : Program} {w : World} {K : PySem.W.Frag} {mg : Str → Option Value} {base : Heap}
open L2H in
end
/-! ### what may be refused, what is asked of it -/
/-- rz: classes that may be raised; xs: that may be caught; cl: classes that an except clause names; val x c: is a thing of class x one of c; cat: does except c catch it; wd x f: what f tells of it -/
structure Ex where
  rz : List Str
  xs : List Str
  cl : List Str
  val : Str → Str → Option Bool
  cat : Str → Str → Option Bool
  wd : Str → Str → Option Str
def exL (l : List Str) : Ex := ⟨l, [], [], fun _ _ => none, fun _ _ => none, fun _ _ => none⟩
structure XFact (ex : Ex) (mg : Str → Option Value) (P : Program) (w : World) (K : PySem.W.Frag) (base : Heap) (x : Str) (C : Addr) : Prop where
  c : ExcC K C
  v : ValOk mg K C (ex.val x)
  t : ∀ T b, ex.cat x T = some b → ∀ cT, mg T = some (.ref cT) → PySem.W.exmOne K (.ref C) (.ref cT) = some b
  w : ∀ f z, ex.wd x f = some z → ∃ fw fdw psw, FnS P w K mg base (L2.CX P w) 1 fw fdw psw C z ∧ mg f = some (.ref fw) ∧ PySem.W.keepIn K (.ref fw) = true ∧ Binds K fdw psw []
def okT (N : List Str) (sc : Scope) : TB → Stmt → Bool
  | .ex f es, s => match s with | .Expr v _ => okE N sc (.call f es) v | _ => false
  | .st i _ f es, s => match s with | .Assign [.Name x p] v _ => tgOk N sc i (.Name x p) && okE N sc (.call f es) v | _ => false
  | .if_ c a b, s => match s with | .If t [x] [y] _ => okE N sc c t && okT N sc a x && okT N sc b y | _ => false
def okX (N : List Str) (sc : Scope) (n : Nat) : List XSt → List Stmt → Bool
  | [], ss => match ss with | [] => true | _ => false
  | .set i z :: l, ss => match ss with | .Assign [.Name x p] (.Constant (.str y) _ _) _ :: r => tgOk N sc i (.Name x p) && decide (i ≠ n) && decide (y = z) && okX N sc n l r | _ => false
  | .ifs t i z :: l, ss => match ss with | .If c [.Assign [.Name x p] (.Constant (.str y) _ _) _] [] _ :: r => okWT N sc n t c && tgOk N sc i (.Name x p) && decide (i ≠ n) && decide (y = z) && okX N sc n l r | _ => false
  | .word i f :: l, ss => match ss with | .Assign [.Name x p] (.Call (.Name g _) [.Name y _] [] _) _ :: r => tgOk N sc i (.Name x p) && decide (i ≠ n) && decide (g = f) && glOk sc f && slotOk N sc n y && okX N sc n l r | _ => false
def evX (val : Str → Option Bool) (wd : Str → Option Str) : List XSt → Option (List (Nat × Str))
  | [] => some []
  | .set i z :: l => match evX val wd l with
    | some r => some ((i, z) :: r)
    | none => none
  | .ifs t i z :: l => match evWT val t, evX val wd l with
    | some b, some r => some (if b then (i, z) :: r else r)
    | _, _ => none
  | .word i f :: l => match wd f, evX val wd l with
    | some z, some r => some ((i, z) :: r)
    | _, _ => none
def okTry (ex : Ex) (N : List Str) (sc : Scope) (b : TB) (tb : List (Str × List (Nat × Str))) (n : Nat) (sx : List XSt) : Stmt → Bool
  | .Try [sb] [.ExceptHandler (some (.Name T _)) (some nm) (s0 :: ss) _] [] [] _ => okT N sc b sb && okX N sc n sx (s0 :: ss) && decide (N[n]? = some nm) && decide (sc.names.lookup nm = some .local) && glOk sc T && decide (T ∈ ex.cl) &&
      tb.all fun p => decide (p.1 ∈ ex.xs) && decide (ex.cat p.1 T = some true) && decide (evX (ex.val p.1) (ex.wd p.1) sx = some p.2)
  | _ => false
def setV : List (Nat × Str) → L2.St → L2.St
  | [], σ => σ
  | p :: l, σ => setV l (σ.set p.1 (some (.str p.2)))
theorem tg_loc {N : List Str} {sc : Scope} {i : Nat} {x : Str} {p : Pos} (h : tgOk N sc i (.Name x p) = true) : N[i]? = some x ∧ Loc sc x := by
  simp only [tgOk, Bool.and_eq_true, decide_eq_true_eq] at h
  obtain ⟨hN, hk⟩ := h
  refine ⟨hN, ?_⟩
  unfold kL at hk
  split at hk
  · rename_i q; exact .inl q
  · rename_i q; exact .inr q
  · cases hk
section
variable {X : Cx} {a D : Addr} {oe : Obj} {val : Str → Option Bool} {wd : Str → Option Str} {n : Nat}
variable (hi : X.mg "isinstance" = none) (C : ExcC X.K D) (hp : (a, oe) ∈ X.pn) (hz : Zc (.ref D) none oe) (hf : ∃ vs, oe.data = .fields vs) (V1 : ValOk X.mg X.K D val)
  (hr : L2H.RoomH 1 X.A) (hW : ∀ f z, wd f = some z → ∃ fw fdw psw, FnS X.prog X.w X.K X.mg X.base (L2.CX X.prog X.w) 1 fw fdw psw D z ∧ X.mg f = some (.ref fw) ∧ PySem.W.keepIn X.K (.ref fw) = true ∧ Binds X.K fdw psw [])
  (nd : X.N.Nodup) (fn : ∀ x, X.fn x = true)
include hi C hp hz hf V1 hr hW nd fn
theorem x_ok : ∀ (sx : List XSt) (ss : List Stmt), okX X.N X.env.scope n sx ss = true →
    PSs X ss (fun Dn σ H => σ[n]? = some (some (.ref a)) ∧ ∃ l, evX val wd sx = some l ∧ ∀ H', Same H H' → Dn.nx (setV l σ) H')
  | [], ss, h => by
    simp only [okX] at h
    split at h
    · refine pss_nil.imp fun Dn σ H ⟨_, l, e, q⟩ => ?_
      cases e
      exact q H (Same.refl _)
    · cases h
  | .set i z :: l, ss, h => by
    simp only [okX] at h
    split at h
    · simp only [Bool.and_eq_true, decide_eq_true_eq] at h
      obtain ⟨⟨⟨h1, h2⟩, rfl⟩, h4⟩ := h
      obtain ⟨w1, w2⟩ := tg_loc h1
      refine PSs.imp (pss_cons (ps_set nd w1 w2 pe_str rfl (.inl (fn _))) (x_ok l _ h4)) fun Dn σ H ⟨h1, l', e, q⟩ => ?_
      simp only [evX] at e
      split at e
      · rename_i r e1
        cases e
        exact ⟨by rw [List.getElem?_set_ne h2]; exact h1, r, e1, q⟩
      · cases e
    · cases h
  | .ifs t i z :: l, ss, h => by
    simp only [okX] at h
    split at h
    · simp only [Bool.and_eq_true, decide_eq_true_eq] at h
      obtain ⟨⟨⟨⟨h0, h1⟩, h2⟩, rfl⟩, h4⟩ := h
      obtain ⟨w1, w2⟩ := tg_loc h1
      refine PSs.imp (pss_cons (ps_if (wt_ok hi C hp hz hf V1 t _ h0) (pss_cons (ps_set nd w1 w2 pe_str rfl (.inl (fn _))) pss_nil) pss_nil) (x_ok l _ h4)) fun Dn σ H ⟨h1, l', e, q⟩ => ?_
      simp only [evX] at e
      split at e
      · rename_i b r e0 e1
        cases e
        refine ⟨h1, b, e0, fun H' sm => ?_⟩
        cases b with
        | true => exact ⟨by rw [List.getElem?_set_ne h2]; exact h1, r, e1, fun H2 sm2 => q H2 (sm.trans sm2)⟩
        | false => exact ⟨h1, r, e1, fun H2 sm2 => q H2 (sm.trans sm2)⟩
      · cases e
    · cases h
  | .word i f :: l, ss, h => by
    simp only [okX] at h
    split at h
    · simp only [Bool.and_eq_true, decide_eq_true_eq] at h
      obtain ⟨⟨⟨⟨⟨h1, h2⟩, rfl⟩, h3⟩, h4⟩, h5⟩ := h
      obtain ⟨w1, w2⟩ := tg_loc h1
      rename_i x p gn q1 y q2 q3 q4 r
      cases ew : wd gn with
      | none =>
        refine ⟨fun pins s σ H Dn I ⟨_, l', e, _⟩ => ?_⟩
        simp only [evX, ew] at e
        cases e
      | some z =>
        obtain ⟨fw, fdw, psw, Fw, mw, kw, bw⟩ := hW _ _ ew
        have pc := pe_callX (q := q1) (q2 := q2) (pos := q3) (X := X) (p := (a, oe)) Fw hr hp hz hf (gl_of h3).1 (gl_of h3).2 mw kw bw (fun σ _ _ _ _ _ _ c => (cx_no c).elim) h4
        refine PSs.imp (pss_cons (ps_set nd w1 w2 pc rfl (.inl (fn _))) (x_ok l _ h5)) fun Dn σ H ⟨h1, l', e, q⟩ => ?_
        simp only [evX, ew] at e
        split at e
        · rename_i z' r' e0 e1
          cases e0
          cases e
          exact ⟨h1, fun H' sm => ⟨by rw [List.getElem?_set_ne h2]; exact h1, r', e1, fun H2 sm2 => q H2 (sm.trans sm2)⟩⟩
        · cases e
    · cases h
end
end En

set_option Elab.async false
set_option linter.all false
set_option maxRecDepth 100000
set_option maxHeartbeats 8000000
namespace En
open PySem PySem.Spec PyProof.Rows L2

/-! ### the statements against the text -/
def isLc : ME → Bool
  | .lc _ _ _ _ => true
  | _ => false
def ownT : Expr → Bool
  | .Tuple _ _ _ => true
  | .List _ _ => true
  | _ => false
mutual
def okS (ex : Ex) (N : List Str) (sc : Scope) : MS → Stmt → Bool
  | .skip, s => match s with | .Pass _ => true | .Expr (.Constant (.str _) _ _) _ => true | _ => false
  | .set i e _, s => match s with | .Assign [.Name x p] v pos => tgOk N sc i (.Name x p) && okE N sc e v | _ => false
  | .unp l e, s => match s with | .Assign [.Tuple es _ _] v _ => tgsOk N sc l es && !(ownT v) && okE N sc e v | _ => false
  | .par i j a b, s => match s with | .Assign [.Tuple [.Name x px, .Name y py] _ _] (.Tuple [u, v] _ _) _ => decide (N[i]? = some x) && decide (N[j]? = some y) && decide (i ≠ j) && decide (x ≠ y) && decide (sc.names.lookup x = some .local) && decide (sc.names.lookup y = some .local) && decide (px.line = py.line) && !(foldedForSure 8 u) && !(constantsAlone 8 u) && okE N sc a u && okE N sc b v | _ => false
  | .ret e, s => match s with | .Return (some v) _ => okE N sc e v | _ => false
  | .retN, s => match s with | .Return none _ => true | _ => false
  | .reto i, s => match s with | .Return (some (.Name x _)) _ => slotOk N sc i x | _ => false
  | .ife c a b, s => match s with | .If t x y _ => okE N sc c t && okSs ex N sc a x && okSs ex N sc b y | _ => false
  | .for_ g it b, s => match s with | .For tg iter body [] _ => okG N sc g tg && okI N sc it tg iter && okSs ex N sc b body | _ => false
  | .whl c b, s => match s with | .While t body [] _ => okE N sc c t && okSs ex N sc b body | _ => false
  | .exp e, s => match s with | .Expr v _ => !(isLc e) && okE N sc e v | _ => false
  | .app i e, s => match s with | .Expr (.Call (.Attribute (.Name x _) m ap) [v] [] cp) _ => slotOk N sc i x && decide (m = "append") && (ap.endLine == cp.line) && okE N sc e v | _ => false
  | .ext i e, s => match s with | .Expr (.Call (.Attribute (.Name x _) m ap) [v] [] cp) _ => slotOk N sc i x && decide (m = "extend") && (ap.endLine == cp.line) && okE N sc e v | _ => false
  | .put i k e, s => match s with | .Assign [.Subscript (.Name x _) y _] v _ => slotOk N sc i x && okE N sc k y && okE N sc e v | _ => false
  | .dput i k e, s => match s with | .Assign [.Subscript (.Name x _) y _] v _ => slotOk N sc i x && okE N sc k y && okE N sc e v && !(isLc e) | _ => false
  | .ins i k e, s => match s with | .Expr (.Call (.Attribute (.Name x _) m ap) [y, v] [] cp) _ => slotOk N sc i x && decide (m = "insert") && (ap.endLine == cp.line) && okE N sc k y && okE N sc e v | _ => false
  | .popS z i, s => match s with | .Assign [.Name x p] (.Call (.Attribute (.Name y _) m ap) [] [] cp) _ => tgOk N sc z (.Name x p) && slotOk N sc i y && decide (m = "pop") && (ap.endLine == cp.line) | _ => false
  | .popI z i k, s => match s with | .Assign [.Name x p] (.Call (.Attribute (.Name y _) m ap) [v] [] cp) _ => tgOk N sc z (.Name x p) && slotOk N sc i y && decide (m = "pop") && (ap.endLine == cp.line) && okE N sc k v | _ => false
  | .raise_ x m, s => match s with | .Raise (some (.Call (.Name y _) [.Constant (.str m') _ _] [] _)) none _ => decide (x = y) && decide (m = m') && decide (x ∈ ex.rz) && glOk sc x | _ => false
  | .mov i j, s => match s with | .Assign [.Name x p] (.Name y _) _ => tgOk N sc i (.Name x p) && slotOk N sc j y | _ => false
  | .try_ b tb n sx, s => okTry ex N sc b tb n sx s
  | .brk, s => match s with | .Break _ => true | _ => false
  | .cnt, s => match s with | .Continue _ => true | _ => false
  | .never, _ => true
def okSs (ex : Ex) (N : List Str) (sc : Scope) : MSs → List Stmt → Bool
  | .nil, ss => match ss with | [] => true | _ => false
  | .cons m r, ss => match ss with | s :: t => okS ex N sc m s && okSs ex N sc r t | _ => false
  | .frz _ r, ss => okSs ex N sc r ss
end

/-! ### how the state may go on -/
def Evo (H : Hp) (M : AS) (H' : Hp) (M' : AS) : Prop := ∀ a u, ¬ M a → H a = some u → H' a = some u ∧ ¬ M' a
theorem Evo.refl (H : Hp) (M : AS) : Evo H M H M := fun a u m h => ⟨h, m⟩
theorem Evo.trans {H H1 H2 : Hp} {M M1 M2 : AS} (a : Evo H M H1 M1) (b : Evo H1 M1 H2 M2) : Evo H M H2 M2 := fun c u m h => b c u (a c u m h).2 (a c u m h).1
theorem Evo.pre {H H1 H2 : Hp} {M M2 : AS} (s : Same H H1) (b : Evo H1 M H2 M2) : Evo H M H2 M2 := fun c u m h => b c u m (s c u h)
theorem Evo.post {H H1 : Hp} {M : AS} (s : Same H H1) : Evo H M H1 M := fun c u m h => ⟨s c u h, m⟩
theorem Evo.tup {H H' : Hp} {M M' : AS} (e : Evo H M H' M') (dom : ∀ a, M a → ∃ o, H a = some o ∧ Mut (some o)) {a : Addr} {xs : List V} (r : Rd H a (.tup xs)) : Rd H' a (.tup xs) := by
  have nm : ¬ M a := fun m => by
    obtain ⟨o, q, t⟩ := dom a m
    rcases r with r | ⟨o', r⟩
    · rw [r] at q; cases q; exact t
    · rw [r] at q; cases q; exact t
  rcases r with r | ⟨o', r⟩
  · exact .inl (e a _ nm r).1
  · exact .inr ⟨o', (e a _ nm r).1⟩
theorem Evo.kp {H0 H H' : Hp} {M M' : AS} {m : Bool} (e : Evo H M H' M') (dom : ∀ a, M a → ∃ o, H a = some o ∧ Mut (some o)) : Kp H (Lm H0 M m) H' (Lm H0 M' m) :=
  ⟨fun a u l h => ⟨(e a u l.1 h).1, (e a u l.1 h).2, l.2⟩, fun a xs r => e.tup dom r⟩

/-- an object of one's own is changed -/
theorem EnvOk.mut {H0 : Hp} {M0 : AS} {H : Hp} {M : AS} {σ : L2.St} {env : List Sl} (ok : EnvOk H0 M0 H M σ env) {i : Nat} {m m' : Bool} {d d' : D} {a : Addr} {o : HO} (e : env[i]? = some (.ow m d)) (hs : σ[i]? = some (some (.ref a))) (hm : M a) (h0 : H0 a = none)
    (ho : Mut (some o)) (hn : Ob (upd H a o) (Lm H0 M m') a d') : EnvOk H0 M0 (upd H a o) M σ (env.set i (.ow m' d')) ∧ Evo H M (upd H a o) M := by
  obtain ⟨o1, q1, t1⟩ := ok.dom a hm
  have evo : Evo H M (upd H a o) M := fun b u nm h => ⟨by rw [upd_ne (fun z => nm (by rw [z]; exact hm))]; exact h, nm⟩
  have hi := (List.getElem?_eq_some_iff.mp e).1
  refine ⟨⟨by rw [List.length_set]; exact ok.len, fun b u h => ?_, ok.m0, fun b q => ?_, fun j s ej => ?_, fun j l m1 d1 m2 d2 b e1 e2 s1 s2 => ?_⟩, evo⟩
  · rw [upd_ne (ne_of_none h h0)]
    exact ok.same b u h
  · by_cases hb : b = a
    · subst hb; exact ⟨o, upd_same, ho⟩
    · rw [upd_ne hb]; exact ok.dom b q
  · have kp : ∀ {m : Bool}, Kp H (Lm H0 M m) (upd H a o) (Lm H0 M m) := fun {m} => evo.kp ok.dom
    by_cases hj : i = j
    · subst hj
      rw [List.getElem?_set_self hi] at ej
      cases ej
      exact ⟨a, hs, hm, h0, hn⟩
    · rw [List.getElem?_set_ne hj] at ej
      have h := ok.sl j s ej
      cases s with
      | no => trivial
      | pt v => exact h
      | kn v m1 d1 => exact ⟨h.1, kp.dt h.2⟩
      | fr m1 d1 =>
        obtain ⟨v, q, t⟩ := h
        exact ⟨v, q, kp.dt t⟩
      | ow m1 d1 =>
        obtain ⟨b, q, x, y, t⟩ := h
        have hb : b ≠ a := fun z => hj (ok.dis i j m d m1 d1 a e ej hs (by rw [q, z]))
        exact ⟨b, q, x, y, t.go (upd_ne hb) (kp (m := m1)).1 (kp (m := m1)).2⟩
  · have key : ∀ {j : Nat} {m1 : Bool} {d1 : D}, (env.set i (.ow m' d'))[j]? = some (.ow m1 d1) → ∃ m2 d2, env[j]? = some (.ow m2 d2) := fun {j m1 d1} ej => by
      by_cases hj : i = j
      · subst hj; exact ⟨_, _, e⟩
      · rw [List.getElem?_set_ne hj] at ej; exact ⟨_, _, ej⟩
    obtain ⟨_, _, f1⟩ := key e1
    obtain ⟨_, _, f2⟩ := key e2
    exact ok.dis j l _ _ _ _ b f1 f2 s1 s2
/-- it is changed no more -/
theorem EnvOk.freeze {H0 : Hp} {M0 : AS} {H : Hp} {M : AS} {σ : L2.St} {env : List Sl} (ok : EnvOk H0 M0 H M σ env) {i : Nat} {m : Bool} {d : D} {a : Addr} (e : env[i]? = some (.ow m d)) (hs : σ[i]? = some (some (.ref a))) (h0 : H0 a = none) (t : Ob H (Lm H0 M m) a d) :
    EnvOk H0 M0 H (fun b => M b ∧ b ≠ a) σ (env.set i (.fr m d)) ∧ Evo H M H (fun b => M b ∧ b ≠ a) := by
  have hi := (List.getElem?_eq_some_iff.mp e).1
  have wk : ∀ {m : Bool}, ∀ b, Lm H0 M m b → Lm H0 (fun b => M b ∧ b ≠ a) m b := fun {m} b l => ⟨fun z => l.1 z.1, l.2⟩
  refine ⟨⟨by rw [List.length_set]; exact ok.len, ok.same, fun b q => ⟨⟨(ok.m0 b q).1, fun z => (ok.m0 b q).2 (by rw [z]; exact h0)⟩, (ok.m0 b q).2⟩, fun b q => ok.dom b q.1, fun j s ej => ?_, fun j l m1 d1 m2 d2 b e1 e2 s1 s2 => ?_⟩, fun b u nm h => ⟨h, fun z => nm z.1⟩⟩
  · by_cases hj : i = j
    · subst hj
      rw [List.getElem?_set_self hi] at ej
      cases ej
      exact ⟨_, hs, (t.wk wk).dt ⟨fun z => z.2 rfl, fun _ => h0⟩⟩
    · rw [List.getElem?_set_ne hj] at ej
      have h := ok.sl j s ej
      cases s with
      | no => trivial
      | pt v => exact h
      | kn v m1 d1 => exact ⟨h.1, h.2.wk wk⟩
      | fr m1 d1 =>
        obtain ⟨v, q, t⟩ := h
        exact ⟨v, q, t.wk wk⟩
      | ow m1 d1 =>
        obtain ⟨b, q, x, y, t⟩ := h
        exact ⟨b, q, ⟨x, fun z => hj (ok.dis i j m d m1 d1 a e ej hs (by rw [q, z]))⟩, y, t.wk wk⟩
  · have key : ∀ {j : Nat} {m1 : Bool} {d1 : D}, (env.set i (.fr m d))[j]? = some (.ow m1 d1) → env[j]? = some (.ow m1 d1) := fun {j m1 d1} ej => by
      by_cases hj : i = j
      · subst hj; rw [List.getElem?_set_self hi] at ej; cases ej
      · rwa [List.getElem?_set_ne hj] at ej
    exact ok.dis j l _ _ _ _ b (key e1) (key e2) s1 s2
/-- a new list of one's own -/
theorem EnvOk.take {H0 : Hp} {M0 : AS} {H H1 : Hp} {M : AS} {σ : L2.St} {env : List Sl} (ok : EnvOk H0 M0 H M σ env) {i : Nat} {m : Bool} {d : D} {a : Addr} (hi : i < env.length) (s : Same H H1) (ha : H a = none) (t : Ob H1 (fun b => Lm H0 M m b ∧ b ≠ a) a d) :
    EnvOk H0 M0 H1 (fun b => M b ∨ b = a) (σ.set i (some (.ref a))) (env.set i (.ow m d)) ∧ Evo H M H1 (fun b => M b ∨ b = a) := by
  have k := ok.add ha s t.there
  have f := ok.fresh ha
  have hsi : i < σ.length := by rw [ok.len]; exact hi
  have old : ∀ {j : Nat} {m1 : Bool} {d1 : D} {b : Addr}, env[j]? = some (.ow m1 d1) → σ[j]? = some (some (.ref b)) → b ≠ a := fun {j m1 d1 b} e q z => by
    obtain ⟨c, q', x, _, _⟩ := ok.sl j _ e
    rw [q] at q'
    cases q'
    exact f.1 (by rw [← z]; exact x)
  refine ⟨⟨by rw [List.length_set, List.length_set]; exact k.len, k.same, k.m0, k.dom, fun j s' ej => ?_, fun j l m1 d1 m2 d2 b e1 e2 s1 s2 => ?_⟩, fun b u nm h => ⟨s b u h, fun z => z.elim nm fun z => by rw [z, ha] at h; cases h⟩⟩
  · by_cases hj : i = j
    · subst hj
      rw [List.getElem?_set_self hi] at ej
      cases ej
      exact ⟨a, List.getElem?_set_self hsi, .inr rfl, f.2, t.wk fun b q => ⟨fun z => z.elim q.1.1 q.2, q.1.2⟩⟩
    · rw [List.getElem?_set_ne hj] at ej
      have h := k.sl j s' ej
      rw [List.getElem?_set_ne hj]
      exact h
  · by_cases hj : i = j
    · subst hj
      rw [List.getElem?_set_self hsi] at s1
      cases s1
      by_cases hl : i = l
      · exact hl
      · rw [List.getElem?_set_ne hl] at e2 s2
        exact absurd rfl (old e2 s2)
    · rw [List.getElem?_set_ne hj] at e1 s1
      by_cases hl : i = l
      · subst hl
        rw [List.getElem?_set_self hsi] at s2
        cases s2
        exact absurd rfl (old e1 s1)
      · rw [List.getElem?_set_ne hl] at e2 s2
        exact ok.dis j l _ _ _ _ b e1 e2 s1 s2

/-! ### what is wanted behind a statement -/
section
variable (E : XK) (mg : Str → Option Value)
def Sp (D : Ends) (H0 : Hp) (M0 : AS) (H : Hp) (M : AS) : Fl → Prop
  | .bad => False
  | .err x => ∀ C H', mg x = some (.ref C) → Same H0 H' → E (.ref C) none H'
  | .next e => ∀ σ' H' M', EnvOk H0 M0 H' M' σ' e → Evo H M H' M' → D.nx σ' H'
  | .ret r => ∀ v H' M', Same H0 H' → (∀ a, M0 a → M' a) → RvOk H0 M' H0 H' v r → D.rt v H'
  | .brk e => ∀ σ' H' M', EnvOk H0 M0 H' M' σ' e → Evo H M H' M' → D.bk σ' H'
  | .cnt e => ∀ σ' H' M', EnvOk H0 M0 H' M' σ' e → Evo H M H' M' → D.ct σ' H'
end
section
variable {E : XK} {mg : Str → Option Value}
theorem Sp.of {α : Type} {D : Ends} {H0 : Hp} {M0 : AS} {H : Hp} {M : AS} {r : R α} {f : α → Fl} {σ : L2.St} {env : List Sl} {H2 : Hp} {M2 : AS} (ok : EnvOk H0 M0 H2 M2 σ env) (h : Sp E mg D H0 M0 H M (.of r f)) : Rp E mg H2 r fun a => Sp E mg D H0 M0 H M (f a) := by
  cases r with
  | bad => exact h
  | err x => exact fun C H' q s => h C H' q (ok.same.trans s)
  | ok a => exact h
end
section
variable (Γ : FT) (fuel : Nat) (E : XK) (mg : Str → Option Value)
def tS (m : MS) : TS := fun D σ H => ∃ H0 M0 M env, EnvOk H0 M0 H M σ env ∧ Sp E mg D H0 M0 H M (evS Γ fuel m env)
def tSs (m : MSs) : TS := fun D σ H => ∃ H0 M0 M env, EnvOk H0 M0 H M σ env ∧ Sp E mg D H0 M0 H M (evSs Γ fuel m env)
end
structure OkS (X : Cx) (Γ : FT) (E : XK) (k : Nat) (ex : Ex) : Prop where
  ok : Ok X Γ E k
  fn : ∀ x, X.fn x = true
  kind : X.env.scope.kind = .function
  own : PassesOwn (model X.prog X.w) X.A X.env X.xe
  rz : ∀ (x m : Str) (j : Nat) (p p2 p3 pos : Pos), x ∈ ex.rz → Gl X x → PS X (.Raise (some (.Call (.Name x p) [.Constant (.str m) j p2] [] p3)) none pos) (fun _ _ H => ∀ C, X.mg x = some (.ref C) → E (.ref C) none H)
  stk : X.stack = X.env :: X.outer
  frm : X.env.frame = some X.env.locals
  cl : ∀ T, T ∈ ex.cl → ∃ cT, X.mg T = some (.ref cT)
  xf : ∀ x, x ∈ ex.xs → ∀ C, X.mg x = some (.ref C) → XFact ex X.mg X.prog X.w X.K X.base x C
theorem OkS.fnIn {X : Cx} {Γ : FT} {E : XK} {k : Nat} {ex : Ex} (o : OkS X Γ E k ex) : FnIn X X.env.scope := fun x => ⟨fun h => h, fun h => ⟨h, o.fn x⟩⟩
end En

set_option Elab.async false
set_option linter.all false
set_option maxRecDepth 100000
set_option maxHeartbeats 8000000
namespace En
open PySem PySem.Spec PyProof.Rows L2

theorem put1_ok {E : XK} {mg : Str → Option Value} {D : Ends} {H0 : Hp} {M0 : AS} {H H1 : Hp} {M : AS} {σ : L2.St} {env : List Sl} {own : Bool} {i : Nat} {r : Rv} {v : V} (ok : EnvOk H0 M0 H M σ env) (s : Same H H1) (rv : RvOk H0 M H H1 v r)
    (h : Sp E mg D H0 M0 H M (put1 own i env r)) : D.nx (σ.set i (some v)) H1 := by
  have fr : ∀ {m : Bool} {d : En.D}, Dt H1 (Lm H0 M m) v d → Sp E mg D H0 M0 H M (setSl env i (.fr m d)) → D.nx (σ.set i (some v)) H1 := fun {m d} t h => by
    unfold setSl at h
    split at h
    · rename_i hi
      exact h _ H1 M ((ok.up s).set_fr t hi) (Evo.post s)
    · exact h.elim
  cases r with
  | fr m d =>
    simp only [put1] at h
    split at h
    · exact h.elim
    · exact fr rv h
  | ow m d =>
    simp only [put1] at h
    split at h
    · unfold setSl at h
      split at h
      · rename_i hi
        obtain ⟨a, rfl, ha, _, _, t⟩ := rv
        obtain ⟨k, e⟩ := ok.take hi s ha t
        exact h _ H1 _ k e
      · exact h.elim
    · obtain ⟨a, rfl, ha, h1, h2, t⟩ := rv
      exact fr ((t.wk (L' := Lm H0 M m) fun _ q => q.1).dt ⟨h1, fun _ => h2⟩) h
  | bo m d => exact h.elim
/-- what a list of one's own gives -/
theorem own_at {H0 : Hp} {M0 : AS} {H : Hp} {M : AS} {σ : L2.St} {env : List Sl} {i : Nat} {m : Bool} {ds : List D} (ok : EnvOk H0 M0 H M σ env) (e : env[i]? = some (.ow m (.list ds))) :
    ∃ a xs, σ[i]? = some (some (.ref a)) ∧ M a ∧ H0 a = none ∧ H a = some (.lst xs) ∧ Dts H (Lm H0 M m) xs ds := by
  obtain ⟨a, h1, h2, h3, t⟩ := ok.sl i _ e
  cases t with
  | lst q s => exact ⟨a, _, h1, h2, h3, q, s⟩
theorem dts_mut {H0 H : Hp} {M : AS} {m : Bool} {a : Addr} {o : HO} {xs ys : List V} {ds : List D} (hm : M a) (q : H a = some (.lst xs)) (s : Dts H (Lm H0 M m) ys ds) : Dts (upd H a o) (Lm H0 M m) ys ds :=
  dts_upd (fun z => z.1 hm) q (fun xs => ⟨fun z => (nomatch z), fun o z => (nomatch z)⟩) s
section
variable {X : Cx}
def rExtR : V → List V → Hp → VK → Prop := fun x vs H Q => ∃ l b xs zs, x = .ref l ∧ vs = [.ref b] ∧ H l = some (.lst xs) ∧ Rd H b (.lst zs) ∧ xs.length + zs.length ≤ sizeLine ∧ Q .non (upd H l (.lst (xs ++ zs)))
theorem mt_extR : MtM X "list.extend" rExtR := by
  intro pins s σ H x vs v us Q I rx rv h
  obtain ⟨l, b, xs, zs, rfl, rfl, hH, hB, hz, q⟩ := h
  cases rx
  obtain ⟨u, rfl, ru⟩ := rv.one
  cases ru
  obtain ⟨z, its, n, r, hl, e⟩ := I.lstM hH
  obtain ⟨z2, its2, n2, r2, hl2, e2⟩ := lstR I hB
  have hsz : its.toArray.size + its2.toArray.size ≤ sizeLine := by rw [List.size_toArray, List.size_toArray]; omega
  have hlong : ¬ (!its.toArray.isEmpty && Builtin.List.listTooLong (its.toArray.size + its2.toArray.size)) = true := by
    rw [notLongL hsz, Bool.and_false]
    exact Bool.false_ne_true
  refine call_meets F.slot_list_extend ⟨_, e, rfl⟩ F.entry_list_extend (F.args_list_extend_2 _ _)
    (AutoSeq1.list_extend_list_list_0 l its.toArray n b its2.toArray n2 hlong (by rw [List.size_toArray]; omega) (by omega)) ⟨e, e2, ?_⟩
  refine ⟨.non, _, I.lset (its' := its ++ its2) hH e (by simp) (r.append r2) ?_, rfl, q⟩
  rw [List.length_append]
  omega
end
theorem sw_plain {N : List Str} {sc : Scope} {m : ME} {x : Expr} {t : Option Expr} {l : Nat} {env : Env} (hx : okE N sc m x = true) (hm : isLc m = false) : swapsWith x t l env = pure false := by
  cases x with
  | ListComp a b c d => cases m <;> simp [okE, isLc] at hx hm
  | SetComp a b c d => cases m <;> simp [okE] at hx
  | DictComp a b c d e => cases m <;> simp [okE] at hx
  | _ => rfl
theorem sw_tup {x : Expr} {es : List Expr} {k : Nat} {p : Pos} {l : Nat} {env : Env} : swapsWith x (some (.Tuple es k p)) l env = pure false := by
  cases x <;> rfl
theorem sw_sub {x a b : Expr} {p : Pos} {l : Nat} {env : Env} : swapsWith x (some (.Subscript a b p)) l env = pure false := by
  cases x <;> rfl
theorem sw_store {x : Expr} {es : List Expr} {k : Nat} {p : Pos} {env : Env} (h : ownT x = false) : swappedStores [.Tuple es k p] x env = pure none := by
  cases x <;> simp [ownT] at h <;> rfl
theorem sw_par {x y : Str} {u v : Expr} {px py pt pt2 : Pos} {kt k2 : Nat} {env : Env} (hk : env.scope.kind = .function) (hx : env.scope.names.lookup x = some .local) (hy : env.scope.names.lookup y = some .local) (hxy : x ≠ y) (hl : px.line = py.line)
    (f1 : foldedForSure 8 u = false) (f2 : constantsAlone 8 u = false) (n1 : ∀ a p, u ≠ .Starred a p) (n2 : ∀ a p, v ≠ .Starred a p) : swappedStores [.Tuple [.Name x px, .Name y py] kt pt] (.Tuple [u, v] k2 pt2) env = pure (some [x, y]) := by
  have kx : env.kindOf x = some .local := hx
  have ky : env.kindOf y = some .local := hy
  have hb : env.blockKind = .function := by unfold Env.blockKind; rw [hk]; rfl
  have hu : (match u with | .Starred .. => true | _ => false) = false := by
    cases u <;> first | rfl | exact absurd rfl (n1 _ _)
  have hv : (match v with | .Starred .. => true | _ => false) = false := by
    cases v <;> first | rfl | exact absurd rfl (n2 _ _)
  have hne : (y == x) = false := by simpa using Ne.symm hxy
  have hne2 : (x == y) = false := by simpa using hxy
  unfold swappedStores
  simp [kx, ky, hb, hu, hv, f1, f2, hl, Expr.pos, List.eraseDups, List.eraseDupsBy, List.eraseDupsBy.loop, hne, hne2]
theorem sw_store_sub {x a b : Expr} {p : Pos} {env : Env} : swappedStores [.Subscript a b p] x env = pure none := by
  cases x <;> rfl
section
variable {Γ : FT} {k fuel : Nat} {ex : Ex}
/-- a comprehension given to a name -/
theorem set_lc {X : Cx} {E : XK} {i : Nat} {e : ME} {x : Str} {p pos : Pos} {v : Expr} (o : OkS X Γ E k ex) (h1 : tgOk X.N X.env.scope i (.Name x p) = true) (h2 : okE X.N X.env.scope e v = true) :
    PS X (.Assign [.Name x p] v pos) (tAsg (tE Γ E X.mg e) (gName i)) := by
  have pv := (sE e v o.ok h2).1
  simp only [tgOk, Bool.and_eq_true, decide_eq_true_eq] at h1
  obtain ⟨hN, hk⟩ := h1
  have hloc : Loc X.env.scope x := by
    unfold kL at hk
    split at hk
    · rename_i q; exact .inl q
    · rename_i q; exact .inr q
    · cases hk
  have plain : swapsWith v (some (.Name x p)) pos.line X.env = pure false → PS X (.Assign [.Name x p] v pos) (tAsg (tE Γ E X.mg e) (gName i)) := fun sw => ps_set o.ok.nd hN hloc pv sw (.inl (o.fn x))
  by_cases hm : isLc e = true
  · cases e <;> simp [isLc] at hm
    rename_i g it c elt
    simp only [okE] at h2
    split at h2
    · rename_i x' tg iter ifs scope pos'
      simp only [Bool.and_eq_true] at h2
      obtain ⟨⟨⟨⟨g1, g2⟩, g3⟩, g4⟩, g5⟩ := h2
      have sw : ∃ b, swapsWith (.ListComp x' [⟨tg, iter, ifs, 0⟩] scope pos') (some (.Name x p)) pos.line X.env = pure b ∧ (b = true → X.env.kindOf x = some .local) := by
        refine ⟨X.env.blockKind == .function && X.env.kindOf x == some .local && p.line == pos'.line && !(scope.names.any fun (n, k) => n == x && (k == .local || k == .cell)), rfl, fun z => ?_⟩
        simp only [Bool.and_eq_true] at z
        exact eq_of_beq z.1.1.2
      obtain ⟨b, sw, hb⟩ := sw
      cases b with
      | false => exact plain sw
      | true =>
        have hown : (ownOf X.N g).map (·.2) = idx g := by
          unfold ownOf
          rw [List.map_map]
          exact List.map_id'' (fun _ => rfl) _
        have P := ps_setLc (te := tE Γ (fun _ _ _ => False) X.mg elt) (tt := tC Γ (fun _ _ _ => False) X.mg c) (g := gOf X g) (pos := pos') o.ok.calm o.ok.nd hN (hb rfl) sw (sI it tg iter o.ok g3) (blkOk_by g1)
          (fun s H C cl fp => g_ok (X := X.blk s H scope (compEnvC scope cl C X.env) fp) o.ok.nd o.ok.calm fnIn_blk g2)
          (fun s H C cl fp => sC c ifs (ok_blk o.ok) g4) (fun s H C cl fp => (sE elt x' (ok_blk o.ok) g5).1) (no_setI g3)
        rw [hown] at P
        exact P.imp fun D σ H h => lc_imp σ H _ h
    · cases h2
  · exact plain (sw_plain h2 (by simpa using hm))
end
end En

set_option Elab.async false
set_option linter.all false
set_option maxRecDepth 100000
set_option maxHeartbeats 8000000
namespace En
open PySem PySem.Spec PyProof.Rows L2

/-! ### try: calls; except: what is caught -/
theorem EnvOk.setNo {H0 : Hp} {M0 : AS} {H : Hp} {M : AS} {σ : L2.St} {env : List Sl} (ok : EnvOk H0 M0 H M σ env) (n : Nat) (o : Option V) : EnvOk H0 M0 H M (σ.set n o) (env.set n .no) := by
  have key : ∀ {j : Nat} {m1 : Bool} {d1 : En.D}, (env.set n .no)[j]? = some (.ow m1 d1) → env[j]? = some (.ow m1 d1) ∧ n ≠ j := fun {j m1 d1} ej => by
    by_cases hj : n = j
    · subst hj
      by_cases hl : n < env.length
      · rw [List.getElem?_set_self hl] at ej; cases ej
      · rw [List.getElem?_eq_none (by rw [List.length_set]; omega)] at ej; cases ej
    · rw [List.getElem?_set_ne hj] at ej; exact ⟨ej, hj⟩
  refine ⟨by rw [List.length_set, List.length_set]; exact ok.len, ok.same, ok.m0, ok.dom, fun j s ej => ?_, fun i j m d m' d' a e1 e2 s1 s2 => ?_⟩
  · by_cases hj : n = j
    · subst hj
      by_cases hl : n < env.length
      · rw [List.getElem?_set_self hl] at ej; cases ej; trivial
      · rw [List.getElem?_eq_none (by rw [List.length_set]; omega)] at ej; cases ej
    · rw [List.getElem?_set_ne hj] at ej ⊢
      exact ok.sl j s ej
  · obtain ⟨f1, n1⟩ := key e1
    obtain ⟨f2, n2⟩ := key e2
    rw [List.getElem?_set_ne n1] at s1
    rw [List.getElem?_set_ne n2] at s2
    exact ok.dis i j m d m' d' a f1 f2 s1 s2
/-- a list of one's own gets another name -/
theorem EnvOk.move {H0 : Hp} {M0 : AS} {H : Hp} {M : AS} {σ : L2.St} {env : List Sl} (ok : EnvOk H0 M0 H M σ env) {i j : Nat} {m : Bool} {d : En.D} {v : V} (e : env[j]? = some (.ow m d)) (hv : σ[j]? = some (some v)) (hi : i < env.length) (hij : i ≠ j) : EnvOk H0 M0 H M (σ.set i (some v)) ((env.set i (.ow m d)).set j .no) := by
  have hsi : i < σ.length := by rw [ok.len]; exact hi
  have hj := (List.getElem?_eq_some_iff.mp e).1
  have key : ∀ {l : Nat} {m1 : Bool} {d1 : En.D}, ((env.set i (.ow m d)).set j .no)[l]? = some (.ow m1 d1) → (l = i ∧ m1 = m ∧ d1 = d) ∨ (l ≠ i ∧ l ≠ j ∧ env[l]? = some (.ow m1 d1)) := fun {l m1 d1} el => by
    by_cases hl : j = l
    · subst hl
      rw [List.getElem?_set_self (by rw [List.length_set]; exact hj)] at el; cases el
    · rw [List.getElem?_set_ne hl] at el
      by_cases hil : i = l
      · subst hil
        rw [List.getElem?_set_self hi] at el; cases el; exact .inl ⟨rfl, rfl, rfl⟩
      · rw [List.getElem?_set_ne hil] at el; exact .inr ⟨Ne.symm hil, Ne.symm hl, el⟩
  refine ⟨by rw [List.length_set, List.length_set, List.length_set]; exact ok.len, ok.same, ok.m0, ok.dom, fun l s el => ?_, fun l l' m1 d1 m2 d2 a e1 e2 s1 s2 => ?_⟩
  · by_cases hl : j = l
    · subst hl
      rw [List.getElem?_set_self (by rw [List.length_set]; exact hj)] at el; cases el; trivial
    · rw [List.getElem?_set_ne hl] at el
      by_cases hil : i = l
      · subst hil
        rw [List.getElem?_set_self hi] at el; cases el
        obtain ⟨a, q, r⟩ := ok.sl j _ e
        rw [hv] at q
        cases q
        exact ⟨a, List.getElem?_set_self hsi, r⟩
      · rw [List.getElem?_set_ne hil] at el ⊢
        exact ok.sl l s el
  · rcases key e1 with ⟨rfl, _, _⟩ | ⟨a1, a2, a3⟩
    · rcases key e2 with ⟨rfl, _, _⟩ | ⟨b1, b2, b3⟩
      · rfl
      · rw [List.getElem?_set_self hsi] at s1
        cases s1
        rw [List.getElem?_set_ne (Ne.symm b1)] at s2
        exact absurd (ok.dis j l' _ _ _ _ a e b3 hv s2) (Ne.symm b2)
    · rcases key e2 with ⟨rfl, _, _⟩ | ⟨b1, b2, b3⟩
      · rw [List.getElem?_set_self hsi] at s2
        cases s2
        rw [List.getElem?_set_ne (Ne.symm a1)] at s1
        exact absurd (ok.dis j l _ _ _ _ a e a3 hv s1) (Ne.symm a2)
      · rw [List.getElem?_set_ne (Ne.symm a1)] at s1
        rw [List.getElem?_set_ne (Ne.symm b1)] at s2
        exact ok.dis l l' _ _ _ _ a a3 b3 s1 s2
theorem setZ_ok {H0 : Hp} {M0 : AS} {H : Hp} {M : AS} : ∀ (l : List (Nat × Str)) {σ : L2.St} {env : List Sl}, EnvOk H0 M0 H M σ env → EnvOk H0 M0 H M (setV l σ) (setZ l env)
  | [], _, _, ok => ok
  | p :: l, σ, env, ok => by
    refine setZ_ok l ?_
    by_cases hi : p.1 < env.length
    · exact ok.set_fr (.str _) hi
    · have h1 : env.set p.1 (.fr false (.str p.2)) = env := List.set_eq_of_length_le (by omega)
      have h2 : σ.set p.1 (some (.str p.2)) = σ := List.set_eq_of_length_le (by have := ok.len; omega)
      rw [h1, h2]
      exact ok
def FW : XK := fun _ _ _ => False
theorem noErr_of {α : Type} {H : Hp} {r : R α} {k : α → Prop} {E E' : XK} {mg : Str → Option Value} (h : Rp E mg H (noErr r) k) : Rp E' mg H r k := by
  cases r with
  | ok a => exact h
  | err x => exact h.elim
  | bad => exact h
theorem noErr_bind {α β : Type} {H : Hp} {r : R α} {f : α → R β} {k : β → Prop} {E E' : XK} {mg : Str → Option Value} (h : Rp E mg H ((noErr r).bind f) k) : Rp E' mg H r fun a => Rp E mg H (f a) k := by
  cases r with
  | ok a => exact h
  | err x => exact h.elim
  | bad => exact h
section
variable {Γ : FT} {k fuel : Nat}
/-- a call, what it raises with the slots as they stand -/
theorem cR_ok {Y : Cx} (ok : Ok Y Γ FW k) {W : WX} (tk : Takes Y W) (f : Str) (ms : MEs) (e : Expr) (h : okE Y.N Y.env.scope (.call f ms) e = true) :
    PE Y e (fun σ H Q => ∃ H0 M0 M env, EnvOk H0 M0 H M σ env ∧ Rp (WE W σ) Y.mg H (callR Γ env f ms) fun r => ∀ v H', Same H H' → RvOk H0 M H H' v r → Q v H') := by
  simp only [okE] at h
  split at h
  · simp only [Bool.and_eq_true, decide_eq_true_eq] at h
    obtain ⟨⟨rfl, h1⟩, h3⟩ := h
    have sa := (sEs ms _ ok h3).1
    have hst : ∀ x es, okEs Y.N Y.env.scope ms (x :: es) = true → starEach (x :: es) Y.env = (false, eval x Y.env) :: starEach es Y.env ∧ ∀ pos, (backTo pos (starEach es Y.env)).any (·.1) = false := fun x es hh => by
      cases ms with
      | nil => simp [okEs] at hh
      | cons m ms' =>
        simp only [okEs, Bool.and_eq_true] at hh
        exact ⟨star_cons hh.1 es _, fun pos => back_any pos _ (star_none hh.2)⟩
    cases hΓ : Γ f with
    | none =>
      refine ⟨fun pins s σ H Q I ⟨H0, M0, M, env, eo, q⟩ => ?_⟩
      simp only [callR, hΓ] at q
      exact q.elim
    | some p =>
      obtain ⟨n, g⟩ := p
      obtain ⟨fa, fd, ps, F, mf, kf, bf⟩ := ok.fns f n g hΓ
      refine (pe_callS (E := WE W) F (ok.room.mono (by omega)) (gl_of h1).1 mf kf bf (fun σ => passAt tk σ) sa (gl_of h1).2 (hst _ _ h3).1 ((hst _ _ h3).2 _)).imp fun σ H Q ⟨H0, M0, M, env, eo, q⟩ => by
        simp only [callR, hΓ] at q
        refine ⟨H0, M0, M, env, eo, (noErr_bind q).imp fun rs _ q vs H1 s1 rv => ?_⟩
        split at q
        · rename_i hn
          obtain ⟨Mc, m1, m2, ds⟩ := args_ok (eo.up s1) rv
          refine ⟨by rw [rv.length]; exact hn, Mc, _, fun a ha => (eo.up s1).dom a (m1 a ha), ds, ((Rp.bind q).same s1).imp fun r _ q v H2 s2 rv2 => ?_⟩
          cases e : ans (rs.any isBo) r with
          | bad => rw [e] at q; exact q.elim
          | err x => exact absurd e (ans_ne _ _ _)
          | ok r' =>
            rw [e] at q
            exact q v H2 (s1.trans s2) (rv2.ans (eo.up s1) s1 m2 e)
        · exact q.elim
  · cases h
def SpT (W : WX) (mg : Str → Option Value) (Dn : Ends) (H0 : Hp) (M0 : AS) (H : Hp) (M : AS) (σ : L2.St) : Fl → Prop
  | .next e => ∀ σ' H' M', EnvOk H0 M0 H' M' σ' e → Evo H M H' M' → Dn.nx σ' H'
  | .err x => ∀ C H', mg x = some (.ref C) → Same H H' → W (.ref C) none σ H'
  | _ => False
theorem SpT.of {α : Type} {W : WX} {mg : Str → Option Value} {Dn : Ends} {H0 : Hp} {M0 : AS} {H : Hp} {M : AS} {σ : L2.St} {r : R α} {f : α → Fl} (h : SpT W mg Dn H0 M0 H M σ (.of r f)) : Rp (WE W σ) mg H r fun a => SpT W mg Dn H0 M0 H M σ (f a) := by
  cases r with
  | bad => exact h
  | err x => exact h
  | ok a => exact h
theorem put1_T {W : WX} {mg : Str → Option Value} {Dn : Ends} {H0 : Hp} {M0 : AS} {H H1 : Hp} {M : AS} {σ : L2.St} {env : List Sl} {own : Bool} {i : Nat} {r : Rv} {v : V} (ok : EnvOk H0 M0 H M σ env) (s : Same H H1) (rv : RvOk H0 M H H1 v r)
    (h : SpT W mg Dn H0 M0 H M σ (put1 own i env r)) : Dn.nx (σ.set i (some v)) H1 := by
  refine put1_ok (E := FW) (mg := mg) (D := Dn) (own := own) (i := i) ok s rv ?_
  cases e : put1 own i env r with
  | next e' => rw [e] at h; exact h
  | bad => rw [e] at h; exact h
  | err x =>
    exfalso
    revert e
    unfold put1 setSl
    cases r <;> (repeat' split) <;> simp
  | ret _ => rw [e] at h; exact h.elim
  | brk _ => rw [e] at h; exact h.elim
  | cnt _ => rw [e] at h; exact h.elim
theorem t_ok {Y : Cx} (ok : Ok Y Γ FW k) (fn : ∀ x, Y.fn x = true) {W : WX} (tk : Takes Y W) : ∀ (b : TB) (s : Stmt), okT Y.N Y.env.scope b s = true →
    PS Y s (fun Dn σ H => ∃ H0 M0 M env, EnvOk H0 M0 H M σ env ∧ SpT W Y.mg Dn H0 M0 H M σ (evT Γ b env))
  | .ex f es, s, h => by
    simp only [okT] at h
    split at h
    · refine (ps_expr (cR_ok ok tk f es _ h) (sw_plain h rfl)).imp fun Dn σ H ⟨H0, M0, M, env, eo, q⟩ => ?_
      simp only [evT] at q
      exact ⟨H0, M0, M, env, eo, (SpT.of q).imp fun r _ q v H1 s1 rv => q σ H1 M (eo.up s1) (Evo.post s1)⟩
    · cases h
  | .st i own f es, s, h => by
    simp only [okT] at h
    split at h
    · simp only [Bool.and_eq_true] at h
      obtain ⟨w1, w2⟩ := tg_loc h.1
      refine (ps_set ok.nd w1 w2 (cR_ok ok tk f es _ h.2) (sw_plain h.2 rfl) (.inl (fn _))).imp fun Dn σ H ⟨H0, M0, M, env, eo, q⟩ => ?_
      simp only [evT] at q
      exact ⟨H0, M0, M, env, eo, (SpT.of q).imp fun r _ q v H1 s1 rv => put1_T eo s1 rv q⟩
    · cases h
  | .if_ c a b, s, h => by
    simp only [okT] at h
    split at h
    · simp only [Bool.and_eq_true] at h
      obtain ⟨⟨h1, h2⟩, h3⟩ := h
      refine (ps_if (sE c _ ok h1).2 (pss_cons (t_ok ok fn tk a _ h2) pss_nil) (pss_cons (t_ok ok fn tk b _ h3) pss_nil)).imp fun Dn σ H ⟨H0, M0, M, env, eo, q⟩ => ?_
      simp only [evT] at q
      refine ⟨H0, M0, M, env, eo, (noErr_of (SpT.of q)).imp fun t _ q H1 s1 => ?_⟩
      have go : ∀ {f : Fl}, SpT W Y.mg Dn H0 M0 H M σ f → SpT W Y.mg Dn H0 M0 H1 M σ f := fun {f} q => by
        cases f with
        | next e => exact fun σ' H' M' k' e' => q σ' H' M' k' (Evo.pre s1 e')
        | err x => exact fun C H' hC sm => q C H' hC (s1.trans sm)
        | _ => exact q
      cases t with
      | true => exact ⟨H0, M0, M, env, eo.up s1, go q⟩
      | false => exact ⟨H0, M0, M, env, eo.up s1, go q⟩
    · cases h
theorem lookup_mem {β : Type} {x : Str} {l : β} : ∀ {tb : List (Str × β)}, tb.lookup x = some l → (x, l) ∈ tb
  | (y, b) :: tb, h => by
    rw [List.lookup_cons] at h
    cases e : x == y with
    | true =>
      rw [e] at h
      cases h
      rw [eq_of_beq e]
      exact List.mem_cons_self
    | false =>
      rw [e] at h
      exact List.mem_cons_of_mem _ (lookup_mem h)
theorem try_ok {X : Cx} {E : XK} {ex : Ex} (o : OkS X Γ E k ex) {b : TB} {tb : List (Str × List (Nat × Str))} {n : Nat} {sx : List XSt} {s : Stmt} (h : okTry ex X.N X.env.scope b tb n sx s = true) :
    PS X s (fun Dn σ H => ∃ H0 M0 M env, EnvOk H0 M0 H M σ env ∧ Sp E X.mg Dn H0 M0 H M (tryR tb n env (evT Γ b env))) := by
  unfold okTry at h
  split at h
  · rename_i sb T np nm s0 ss hp pos
    simp only [Bool.and_eq_true, decide_eq_true_eq] at h
    obtain ⟨⟨⟨⟨⟨⟨h1, h2⟩, h3⟩, h4⟩, h5⟩, h6⟩, h7⟩ := h
    obtain ⟨cT, hT⟩ := o.cl T h6
    have suite : ∀ (a : Addr) (oe : Obj) (cls : Value) (d : Option Addr) (pn : List (Addr × Obj)), Zc cls d oe → (∃ vs, oe.data = .fields vs) → PSs (X.suite a ((a, oe) :: pn)) (s0 :: ss)
        (fun Dn σ H1 => ∃ x C l, x ∈ ex.xs ∧ cls = .ref C ∧ d = none ∧ X.mg x = some (.ref C) ∧ σ[n]? = some (some (.ref a)) ∧ evX (ex.val x) (ex.wd x) sx = some l ∧ ∀ H', Same H1 H' → Dn.nx (setV l σ) H') := fun a oe cls d pn hz hf => ⟨fun pins s' σ H' Dn I ⟨x, C, l, hx, e1, e2, hm, hn, hl, q⟩ => by
      subst e1 e2
      have F := o.xf x hx C hm
      have hrm := o.ok.room.mono (show 1 ≤ k + 2 by omega)
      exact PSs.run (x_ok (X := X.suite a ((a, oe) :: pn)) (D := C) (oe := oe) (a := a) (n := n) (val := ex.val x) (wd := ex.wd x) (o.ok.blt _ (by decide)) F.c List.mem_cons_self hz hf F.v ⟨hrm.dp, hrm.un⟩ (fun f z e => F.w f z e) o.ok.nd o.fn sx (s0 :: ss) h2) pins s' σ H' Dn I ⟨hn, l, hl, q⟩⟩
    have body : ∀ (W : WX) (pn : List (Addr × Obj)) (xe : Value → Shared → Prop), Takes (X.tr pn xe) W → PassesOwn (model X.prog X.w) X.A X.env xe → PSs (X.tr pn xe) [sb] (fun Dn σ H => ∃ H0 M0 M env, EnvOk H0 M0 H M σ env ∧ SpT W X.mg Dn H0 M0 H M σ (evT Γ b env)) :=
      fun W pn xe tkW po => (pss_cons (t_ok (Y := X.tr pn xe) ⟨o.ok.calm, o.ok.nd, o.ok.hu, o.ok.room, takes0, o.ok.blt, o.ok.fns⟩ o.fn tkW b sb h1) pss_nil).imp fun Dn σ H ⟨H0, M0, M, env, eo, q⟩ => ⟨H0, M0, M, env, eo, q⟩
    refine (ps_try_as (Wout := fun c d _ H => E c d H) o.stk o.frm o.ok.nd h3 (show X.env.kindOf nm = some .local from h4) ⟨(gl_of h5).1, (gl_of h5).2, .inl hT⟩ o.ok.tk body suite).imp fun Dn σ H ⟨H0, M0, M, env, eo, q⟩ => ?_
    refine ⟨H0, M0, M, env, eo, ?_⟩
    cases e : evT Γ b env with
    | next e' => rw [e] at q; exact q
    | err x =>
      rw [e] at q
      simp only [tryR] at q
      cases el : tb.lookup x with
      | none => rw [el] at q; exact q.elim
      | some l =>
        rw [el] at q
        simp only at q
        split at q
        case isFalse => exact q.elim
        rename_i hnl
        have hq := List.all_eq_true.mp h7 _ (lookup_mem el)
        simp only [Bool.and_eq_true, decide_eq_true_eq] at hq
        obtain ⟨⟨q1, q2⟩, q3⟩ := hq
        intro C H1 hC sm
        have F := o.xf x q1 C hC
        refine ⟨true, F.t T true q2 cT hT, fun _ a ha => ⟨x, C, l, q1, rfl, rfl, hC, ?_, q3, fun H2 sm2 => ?_⟩, fun z => nomatch z⟩
        · exact List.getElem?_set_self (by rw [eo.len]; exact hnl)
        · exact q _ H2 M (((setZ_ok l (((eo.up sm).up sm2).setNo n (some (.ref a))))).setNo n none) (Evo.post (sm.trans sm2))
    | bad => rw [e] at q; exact q.elim
    | ret _ => rw [e] at q; exact q.elim
    | brk _ => rw [e] at q; exact q.elim
    | cnt _ => rw [e] at q; exact q.elim
  · cases h
end
end En

set_option Elab.async false
set_option linter.all false
set_option maxRecDepth 100000
set_option maxHeartbeats 8000000
namespace En
open PySem PySem.Spec PyProof.Rows L2

theorem Sp.base {E : XK} {mg : Str → Option Value} {D : Ends} {H0 : Hp} {M0 : AS} {H H1 : Hp} {M M1 : AS} {f : Fl} (h : Sp E mg D H0 M0 H M f) (e : Evo H M H1 M1) : Sp E mg D H0 M0 H1 M1 f := by
  cases f with
  | bad => exact h
  | err x => exact h
  | next env => exact fun σ' H' M' k v => h σ' H' M' k (e.trans v)
  | ret r => exact h
  | brk env => exact fun σ' H' M' k v => h σ' H' M' k (e.trans v)
  | cnt env => exact fun σ' H' M' k v => h σ' H' M' k (e.trans v)
/-- one after another -/
theorem Sp.then {E : XK} {mg : Str → Option Value} {D : Ends} {H0 : Hp} {M0 : AS} {H : Hp} {M : AS} {f : Fl} {g : List Sl → Fl} {nx : L2.St → Hp → Prop} (h : Sp E mg D H0 M0 H M (f.then g))
    (n : ∀ env σ' H' M', Sp E mg D H0 M0 H M (g env) → EnvOk H0 M0 H' M' σ' env → Evo H M H' M' → nx σ' H') : Sp E mg { D with nx := nx } H0 M0 H M f := by
  cases f with
  | bad => exact h
  | err x => exact h
  | next env => exact fun σ' H' M' k v => n env σ' H' M' h k v
  | ret r => exact h
  | brk env => exact h
  | cnt env => exact h
theorem sto_ne (r : Rv) (x : Str) : sto r ≠ .err x := by cases r <;> simp [sto]
theorem sp_sto {E : XK} {mg : Str → Option Value} {D : Ends} {H0 : Hp} {M0 : AS} {H : Hp} {M : AS} {r : Rv} {f : Bool × En.D → Fl} (h : Sp E mg D H0 M0 H M (.of (sto r) f)) : ∃ p, sto r = .ok p ∧ Sp E mg D H0 M0 H M (f p) := by
  cases e : sto r with
  | bad => rw [e] at h; exact h.elim
  | err x => exact absurd e (sto_ne _ _)
  | ok p => rw [e] at h; exact ⟨p, rfl, h⟩
theorem sub_assign {N : List Str} {sc : Scope} {m : ME} {y : Expr} {x : Str} {p pos : Pos} {env : Env} (hy : okE N sc m y = true) : ∀ v, assign (.Subscript (.Name x p) y pos) env v = (do
      let ov ← holding [v] (eval (.Name x p) env)
      let iv ← holding [v, ov] (eval y env)
      standAt pos
      holding [v, ov, iv] (setItem ov iv v)
      release [v, ov, iv] []) := by
  intro v
  cases y with
  | Slice a b c d => rw [ok_slice] at hy; cases hy
  | _ => rfl
theorem setAll_ne (m : Bool) : ∀ (l : List Nat) (ds : List En.D) (env : List Sl) (x : Str), setAll m l ds env ≠ .err x
  | [], [], _, _ => by simp [setAll]
  | i :: l, d :: ds, env, x => by
    unfold setAll
    split
    · exact setAll_ne m l ds _ x
    · simp
  | [], _ :: _, _, _ => by simp [setAll]
  | _ :: _, [], _, _ => by simp [setAll]
theorem bindG_ne (g : MG) (m : Bool) (d : En.D) (env : List Sl) (x : Str) : bindG g m d env ≠ .err x := by
  cases g with
  | n i => simp only [bindG]; split <;> simp
  | t l =>
    cases d <;> simp only [bindG] <;> first | exact setAll_ne _ _ _ _ _ | simp
theorem Dvs.app {H : Hp} {L : AS} : ∀ {ws : List V} {fs : List (En.D × En.D)} {w : V} {f : En.D × En.D}, Dvs H L ws fs → Dt H L w f.2 → Dvs H L (ws ++ [w]) (fs ++ [f])
  | [], _, _, _, h, t => by cases h; exact .cons t .nil
  | _ :: _, _, _, _, h, t => by
    cases h with
    | cons a b => exact .cons a (Dvs.app b t)
theorem few1 {N : List Str} {sc : Scope} {m : ME} {v : Expr} {cp : Pos} {env : Env} (h : okE N sc m v = true) : ((backTo cp (starEach [v] env)).all (fun x => !x.1) && (backToKw cp (keywordEach [] env)).all (fun x => x.1.isSome)
      && decide ([v].length + ([] : List Keyword).length + (if ([] : List Keyword).isEmpty then 0 else 1) < 30)) = true := by
  rw [star_cons h]
  rfl
section
variable {Γ : FT} {k fuel : Nat} {ex : Ex}
mutual
theorem sS : ∀ (m : MS) {X : Cx} {E : XK} (s : Stmt), OkS X Γ E k ex → okS ex X.N X.env.scope m s = true → PS X s (tS Γ fuel E X.mg m)
  | .skip, X, E, s, o, h => by
    simp only [okS] at h
    split at h
    · exact ps_pass.imp fun D σ H ⟨H0, M0, M, env, eo, q⟩ => q σ H M eo (Evo.refl _ _)
    · exact ps_doc.imp fun D σ H ⟨H0, M0, M, env, eo, q⟩ => q σ H M eo (Evo.refl _ _)
    · cases h
  | .set i e own, X, E, s, o, h => by
    simp only [okS] at h
    split at h
    · simp only [Bool.and_eq_true] at h
      refine (set_lc o h.1 h.2).imp fun D σ H ⟨H0, M0, M, env, eo, q⟩ => ?_
      simp only [evS] at q
      exact ⟨H0, M0, M, env, eo, (Sp.of eo q).imp fun r _ q v H1 s1 rv => put1_ok eo s1 rv q⟩
    · cases h
  | .par i j a b, X, E, s, o, h => by
    simp only [okS] at h
    split at h
    · rename_i x px y py kt pt u v k2 pt2 pos
      simp only [Bool.and_eq_true, decide_eq_true_eq, Bool.not_eq_true'] at h
      obtain ⟨⟨⟨⟨⟨⟨⟨⟨⟨⟨h1, h2⟩, h3⟩, h4⟩, h5⟩, h6⟩, h7⟩, h8⟩, h9⟩, ha⟩, hb⟩ := h
      have ns : ∀ {m : ME} {e : Expr}, okE X.N X.env.scope m e = true → ∀ a p, e ≠ .Starred a p := fun {m e} he a p z => by rw [z, ok_star] at he; cases he
      have hes : okEs X.N X.env.scope (.cons a (.cons b .nil)) [u, v] = true := by simp only [okEs, ha, hb]; rfl
      refine (ps_par o.ok.calm o.ok.nd h1 h2 h3 h5 h6 (sEs (.cons a (.cons b .nil)) [u, v] o.ok hes).1 (sw_par o.kind h5 h6 h4 h7 h8 h9 (ns ha) (ns hb)) (show swapsWithSole [.Tuple [.Name x px, .Name y py] kt pt] (.Tuple [u, v] k2 pt2) pos.line X.env = pure false from rfl)).imp fun D σ H ⟨H0, M0, M, env, eo, q⟩ => ?_
      simp only [evS] at q
      refine ⟨H0, M0, M, env, eo, (Sp.of eo q).imp fun rs _ q vs H1 s1 rv => ?_⟩
      cases e1 : stos rs with
      | bad => rw [e1] at q; exact q.elim
      | err z => exact absurd e1 (stos_ne _ _)
      | ok p =>
        rw [e1] at q
        have t := rv.stos e1
        cases e2 : setAll p.1 [i, j] p.2 env with
        | bad => simp only [Fl.of, e2] at q
                 exact q.elim
        | err z => exact absurd e2 (setAll_ne _ _ _ _ _)
        | ok env' =>
          simp only [Fl.of, e2] at q
          obtain ⟨hl, k⟩ := setAll_ok (eo.up s1) t e2
          cases vs with
          | nil => simp at hl
          | cons v1 vs => cases vs with
            | nil => simp at hl
            | cons v2 vs => cases vs with
              | cons _ _ => simp at hl
              | nil => exact ⟨v1, v2, rfl, q _ H1 M k (Evo.post s1)⟩
    · cases h
  | .unp l e, X, E, s, o, h => by
    simp only [okS] at h
    split at h
    · rename_i es kk p v pos
      simp only [Bool.and_eq_true, Bool.not_eq_true'] at h
      obtain ⟨⟨h1, h2⟩, h3⟩ := h
      have hg : PG X (.Tuple es kk p) (gOf X (.t l)) := g_ok (g := .t l) (e := .Tuple es kk p) o.ok.nd o.ok.calm o.fnIn h1
      refine (ps_asg (sE e v o.ok h3).1 hg (show swapsWithSole [.Tuple es kk p] v pos.line X.env = pure false from @sw_tup v es kk p pos.line X.env) (sw_store h2) rfl).imp fun D σ H ⟨H0, M0, M, env, eo, q⟩ => ?_
      simp only [evS] at q
      refine ⟨H0, M0, M, env, eo, (Sp.of eo q).imp fun r _ q v H1 s1 rv => ?_⟩
      split at q
      · exact q.elim
      · split at q
        · rename_i ds hd
          cases e2 : setAll r.m l ds env with
          | bad => rw [e2] at q; exact q.elim
          | err x => exact absurd e2 (setAll_ne _ _ _ _ _)
          | ok env' =>
            rw [e2] at q
            have c := rv.cn
            rw [hd] at c
            cases c with
            | @tup a xs _ r' s' =>
              obtain ⟨g1, g2⟩ := setAll_ok (eo.up s1) s' e2
              exact ⟨a, xs, rfl, .inl (.inl r'), g1, g1, q _ H1 M g2 (Evo.post s1)⟩
        · rename_i ds hd
          cases e2 : setAll r.m l ds env with
          | bad => rw [e2] at q; exact q.elim
          | err x => exact absurd e2 (setAll_ne _ _ _ _ _)
          | ok env' =>
            rw [e2] at q
            have c := rv.cn
            rw [hd] at c
            cases c with
            | @lst a xs _ r' s' =>
              obtain ⟨g1, g2⟩ := setAll_ok (eo.up s1) s' e2
              exact ⟨a, xs, rfl, .inr (.inl r'), g1, g1, q _ H1 M g2 (Evo.post s1)⟩
        · exact q.elim
    · cases h
  | .ret e, X, E, s, o, h => by
    simp only [okS] at h
    split at h
    · refine (ps_ret (sE e _ o.ok h).1).imp fun D σ H ⟨H0, M0, M, env, eo, q⟩ => ?_
      simp only [evS] at q
      refine ⟨H0, M0, M, env, eo, (Sp.of eo q).imp fun r _ q v H1 s1 rv => ?_⟩
      split at q
      · exact q.elim
      · exact q v H1 M (eo.same.trans s1) (fun a m => (eo.m0 a m).1) (rv.back eo.same)
    · cases h
  | .retN, X, E, s, o, h => by
    simp only [okS] at h
    split at h
    · exact ps_retN.imp fun D σ H ⟨H0, M0, M, env, eo, q⟩ => q _ H M eo.same (fun a m => (eo.m0 a m).1) .non
    · cases h
  | .reto i, X, E, s, o, h => by
    simp only [okS] at h
    split at h
    · refine (ps_ret (pe_v h)).imp fun D σ H ⟨H0, M0, M, env, eo, q⟩ => ?_
      simp only [evS] at q
      split at q
      · rename_i m d e
        obtain ⟨a, h1, h2, h3, t⟩ := eo.sl i _ e
        have q : ∀ v H' M', Same H0 H' → (∀ a, M0 a → M' a) → RvOk H0 M' H0 H' v (.ow m d) → D.rt v H' := q
        refine ⟨_, h1, q _ H (fun b => M b ∧ b ≠ a) eo.same (fun b mb => ⟨(eo.m0 b mb).1, fun z => (eo.m0 b mb).2 (by rw [z]; exact h3)⟩) ⟨a, rfl, h3, fun z => z.2 rfl, h3, t.wk fun b l => ⟨⟨fun z => l.1 z.1, l.2⟩, fun z => l.1 (by rw [z]; exact h2)⟩⟩⟩
      · exact q.elim
    · cases h
  | .ife c a b, X, E, s, o, h => by
    simp only [okS] at h
    split at h
    · simp only [Bool.and_eq_true] at h
      obtain ⟨⟨h1, h2⟩, h3⟩ := h
      refine (ps_if (sE c _ o.ok h1).2 (sSs a _ o h2) (sSs b _ o h3)).imp fun D σ H ⟨H0, M0, M, env, eo, q⟩ => ?_
      simp only [evS] at q
      refine ⟨H0, M0, M, env, eo, (Sp.of eo q).imp fun t _ q H1 s1 => ?_⟩
      cases t with
      | true => exact ⟨H0, M0, M, env, eo.up s1, q.base (Evo.post s1)⟩
      | false => exact ⟨H0, M0, M, env, eo.up s1, q.base (Evo.post s1)⟩
    · cases h
  | .for_ g it b, X, E, s, o, h => by
    simp only [okS] at h
    split at h
    · rename_i tg iter body pos
      simp only [Bool.and_eq_true] at h
      obtain ⟨⟨h1, h2⟩, h3⟩ := h
      refine (ps_for o.own o.ok.calm (sI it tg iter o.ok h2) (g_ok o.ok.nd o.ok.calm o.fnIn h1) (sSs b body o h3) (no_setI h2)).imp fun D σ H ⟨H0, M0, M, env, eo, q⟩ => ?_
      simp only [evS] at q
      refine ⟨H0, M0, M, env, eo, (Sp.of eo q).imp fun p _ q J H1 s1 wk => ?_⟩
      obtain ⟨G, Y, w, hG, hY⟩ := wk
      generalize hF : (fun d e => Fl.of (bindG g p.1 d e) fun e' => evSs Γ fuel b e') = F at q
      have eo1 := eo.up s1
      refine for_it w (fun i σ2 H2 => ∃ M2 env2, EnvOk H0 M0 H2 M2 σ2 env2 ∧ Evo H1 M H2 M2 ∧ Sp E X.mg D H0 M0 H M (forR F (p.2.drop i) env2)) ⟨M, env, eo1, Evo.refl _ _, by simpa using q⟩ ?_ ?_ ?_
      · rintro i σ2 H2 _ ⟨M2, env2, _, e2, _⟩
        exact hG H2 _ (e2.kp eo1.dom)
      · rintro i x σ2 H2 H3 hlt ⟨M2, env2, k2, e2, q2⟩ y
        have hd : p.2[i]? = some p.2[i] := List.getElem?_eq_getElem hlt
        rw [List.drop_eq_getElem_cons hlt] at q2
        generalize p.2[i] = d at hd q2
        obtain ⟨s3, t3⟩ := hY i H2 x H3 d _ (e2.kp eo1.dom) y hd
        have k3 := k2.up s3
        unfold forR at q2
        have hFd : F d env2 = Fl.of (bindG g p.1 d env2) fun e' => evSs Γ fuel b e' := by rw [← hF]
        rw [hFd] at q2
        cases e3 : bindG g p.1 d env2 with
        | bad => rw [e3] at q2; exact q2.elim
        | err x => exact absurd e3 (bindG_ne _ _ _ _ _)
        | ok env3 =>
          rw [e3] at q2
          refine bind_ok k3 t3 e3 fun σ3 k4 _ _ => ⟨H0, M0, M2, env3, k4, ?_⟩
          have q2 : Sp E X.mg D H0 M0 H M (match evSs Γ fuel b env3 with
            | .next e => forR F (p.2.drop (i + 1)) e
            | .cnt e => forR F (p.2.drop (i + 1)) e
            | .brk e => .next e
            | a => a) := q2
          cases e5 : evSs Γ fuel b env3 with
          | bad => rw [e5] at q2; exact q2
          | err x => rw [e5] at q2; exact q2
          | ret r => rw [e5] at q2; exact q2
          | next env4 => rw [e5] at q2; exact fun σ' H' M' k' e' => ⟨M', env4, k', e2.trans ((Evo.post s3).trans e'), q2⟩
          | cnt env4 => rw [e5] at q2; exact fun σ' H' M' k' e' => ⟨M', env4, k', e2.trans ((Evo.post s3).trans e'), q2⟩
          | brk env4 =>
            rw [e5] at q2
            exact fun σ' H' M' k' e' => q2 σ' H' M' k' ((Evo.pre s1 e2).trans ((Evo.post s3).trans e'))
      · rintro σ2 H2 ⟨M2, env2, k2, e2, q2⟩
        rw [List.drop_length] at q2
        exact q2 σ2 H2 M2 k2 (Evo.pre s1 e2)
    · cases h
  | .whl c b, X, E, s, o, h => by
    simp only [okS] at h
    split at h
    · simp only [Bool.and_eq_true] at h
      obtain ⟨h1, h2⟩ := h
      refine (ps_while o.own (sE c _ o.ok h1).2 (sSs b _ o h2)).imp fun D σ H ⟨H0, M0, M, env, eo, q⟩ => ?_
      simp only [evS] at q
      refine ⟨fun n σ2 H2 => ∃ M2 env2, EnvOk H0 M0 H2 M2 σ2 env2 ∧ Evo H M H2 M2 ∧ Sp E X.mg D H0 M0 H M (whlR (fun e => (evE Γ e c).bind truth) (fun e => evSs Γ fuel b e) n env2), ⟨fuel, M, env, eo, Evo.refl _ _, q⟩, ?_⟩
      rintro n σ2 H2 ⟨M2, env2, k2, e2, q2⟩
      cases n with
      | zero => exact q2.elim
      | succ n =>
        unfold whlR at q2
        refine ⟨H0, M0, M2, env2, k2, (Sp.of k2 q2).imp fun t _ q2 H3 s3 => ?_⟩
        cases t with
        | false =>
          rw [if_neg (by simp)] at q2 ⊢
          exact q2 σ2 H3 M2 (k2.up s3) (e2.trans (Evo.post s3))
        | true =>
          rw [if_pos rfl] at q2 ⊢
          refine ⟨fun σ' H' => ∃ M' env', EnvOk H0 M0 H' M' σ' env' ∧ Evo H M H' M' ∧ Sp E X.mg D H0 M0 H M (whlR (fun e => (evE Γ e c).bind truth) (fun e => evSs Γ fuel b e) n env'), fun σ' H' p => ⟨n, Nat.lt_succ_self n, p⟩, H0, M0, M2, env2, k2.up s3, ?_⟩
          cases e5 : evSs Γ fuel b env2 with
          | bad => rw [e5] at q2; exact q2
          | err x => rw [e5] at q2; exact q2
          | ret r => rw [e5] at q2; exact q2
          | next env4 => rw [e5] at q2; exact fun σ' H' M' k' e' => ⟨M', env4, k', e2.trans ((Evo.post s3).trans e'), q2⟩
          | cnt env4 => rw [e5] at q2; exact fun σ' H' M' k' e' => ⟨M', env4, k', e2.trans ((Evo.post s3).trans e'), q2⟩
          | brk env4 =>
            rw [e5] at q2
            exact fun σ' H' M' k' e' => q2 σ' H' M' k' (e2.trans ((Evo.post s3).trans e'))
    · cases h
  | .exp e, X, E, s, o, h => by
    simp only [okS] at h
    split at h
    · simp only [Bool.and_eq_true, Bool.not_eq_true'] at h
      refine (ps_expr (sE e _ o.ok h.2).1 (sw_plain h.2 h.1)).imp fun D σ H ⟨H0, M0, M, env, eo, q⟩ => ?_
      simp only [evS] at q
      exact ⟨H0, M0, M, env, eo, (Sp.of eo q).imp fun r _ q v H1 s1 rv => q σ H1 M (eo.up s1) (Evo.post s1)⟩
    · cases h
  | .app i e, X, E, s, o, h => by
    simp only [okS] at h
    split at h
    · rename_i x p m ap v cp pos
      simp only [Bool.and_eq_true, decide_eq_true_eq] at h
      obtain ⟨⟨⟨h1, rfl⟩, h2⟩, h3⟩ := h
      refine (ps_expr (pe_bm PySem.F.plainAttrs_list PySem.F.slot_list_append PySem.F.type_list_append mt_append (pe_v h1) (pa_cons (sE e v o.ok h3).1 pa_nil (star_cons h3 _ _)) attr_name (few1 h3) h2 (star_cons h3 _ _) rfl) rfl).imp fun D σ H ⟨H0, M0, M, env, eo, q⟩ => ?_
      simp only [evS] at q
      split at q
      · rename_i m ds ei
        obtain ⟨a, xs, g1, g2, g3, g4, g5⟩ := own_at eo ei
        refine ⟨_, g1, .inl ⟨rfl, xs, .inl (.inl g4)⟩, H0, M0, M, env, eo, (Sp.of eo q).imp fun r _ q v H1 s1 rv => ?_⟩
        obtain ⟨pr, es, q⟩ := sp_sto q
        split at q
        · rename_i hz
          have hz := of_decide_eq_true hz
          have q4 := s1 _ _ g4
          refine ⟨a, xs, v, rfl, rfl, q4, by rw [g5.length]; exact hz, ?_⟩
          obtain ⟨k, ev⟩ := (eo.up s1).mut (o := .lst (xs ++ [v])) (m' := m || pr.1) (d' := .list (ds ++ [pr.2])) ei g1 g2 g3 trivial
            (.lst upd_same ((dts_mut g2 q4 ((sm_dts s1 g5).wk fun _ => Lm.orl)).append (dts_mut g2 q4 (.cons ((rv.sto es).wk fun _ => Lm.orr) .nil))))
          exact q σ _ M k ((Evo.post s1).trans ev)
        · exact q.elim
      · exact q.elim
    · cases h
  | .ext i e, X, E, s, o, h => by
    simp only [okS] at h
    split at h
    · rename_i x p m ap v cp pos
      simp only [Bool.and_eq_true, decide_eq_true_eq] at h
      obtain ⟨⟨⟨h1, rfl⟩, h2⟩, h3⟩ := h
      refine (ps_expr (pe_bm PySem.F.plainAttrs_list PySem.F.slot_list_extend PySem.F.type_list_extend mt_extR (pe_v h1) (pa_cons (sE e v o.ok h3).1 pa_nil (star_cons h3 _ _)) attr_name (few1 h3) h2 (star_cons h3 _ _) rfl) rfl).imp fun D σ H ⟨H0, M0, M, env, eo, q⟩ => ?_
      simp only [evS] at q
      split at q
      · rename_i m ds ei
        obtain ⟨a, xs, g1, g2, g3, g4, g5⟩ := own_at eo ei
        refine ⟨_, g1, .inl ⟨rfl, xs, .inl (.inl g4)⟩, H0, M0, M, env, eo, (Sp.of eo q).imp fun r _ q v H1 s1 rv => ?_⟩
        split at q
        · rename_i es hd
          split at q
          · rename_i hz
            have hz := fits_le hz
            have q4 := s1 _ _ g4
            have c := rv.cn
            rw [hd] at c
            cases c with
            | @lst b zs _ r' s' =>
              refine ⟨a, b, xs, zs, rfl, rfl, q4, r', by rw [g5.length, s'.length]; exact hz, ?_⟩
              obtain ⟨k, ev⟩ := (eo.up s1).mut (o := .lst (xs ++ zs)) (m' := m || r.m) (d' := .list (ds ++ es)) ei g1 g2 g3 trivial
                (.lst upd_same ((dts_mut g2 q4 ((sm_dts s1 g5).wk fun _ => Lm.orl)).append (dts_mut g2 q4 (s'.wk fun _ => Lm.orr))))
              exact q σ _ M k ((Evo.post s1).trans ev)
          · exact q.elim
        · exact q.elim
      · exact q.elim
    · cases h
  | .put i kx e, X, E, s, o, h => by
    simp only [okS] at h
    split at h
    · rename_i x p y p2 v pos
      simp only [Bool.and_eq_true] at h
      obtain ⟨⟨h1, h2⟩, h3⟩ := h
      refine (ps_asg (sE e v o.ok h3).1 (pg_sub (pe_v h1) (sE kx y o.ok h2).1 set_list (sub_assign h2)) (show swapsWithSole [.Subscript (.Name x p) y p2] v pos.line X.env = pure false from @sw_sub v (.Name x p) y p2 pos.line X.env) sw_store_sub rfl).imp fun D σ H ⟨H0, M0, M, env, eo, q⟩ => ?_
      simp only [evS] at q
      refine ⟨H0, M0, M, env, eo, (Sp.of eo q).imp fun r _ q v H1 s1 rv => ?_⟩
      obtain ⟨pr, es, q⟩ := sp_sto q
      split at q
      · rename_i m ds ei
        obtain ⟨a, xs, g1, g2, g3, g4, g5⟩ := own_at eo ei
        refine ⟨_, g1, H0, M0, M, env, eo.up s1, (Sp.of (eo.up s1) q).imp fun r2 _ q u H2 s2 rv2 => ?_⟩
        have s12 := s1.trans s2
        split at q
        · rename_i n hn
          split at q
          · rename_i j hj
            have q4 := s12 _ _ g4
            refine ⟨a, xs, n, j, rfl, sc_sc rv2 hn, q4, by rw [g5.length]; exact hj, ?_⟩
            obtain ⟨k, ev⟩ := (eo.up s12).mut (o := .lst (xs.set j v)) (m' := m || pr.1) (d' := .list (ds.set j pr.2)) ei g1 g2 g3 trivial
              (.lst upd_same (((dts_mut g2 q4 ((sm_dts s12 g5).wk fun _ => Lm.orl))).set (dts_mut g2 q4 (.cons ((sm_dt s2 (rv.sto es)).wk fun _ => Lm.orr) .nil)).cons_inv.1 j))
            exact q σ _ M k ((Evo.post s12).trans ev)
          · exact q.elim
        · exact q.elim
      · exact q.elim
    · cases h
  | .ins i kx e, X, E, s, o, h => by
    simp only [okS] at h
    split at h
    · rename_i x p m ap y v cp pos
      simp only [Bool.and_eq_true, decide_eq_true_eq] at h
      obtain ⟨⟨⟨⟨h1, rfl⟩, h2⟩, h3⟩, h4⟩ := h
      refine (ps_expr (pe_bm PySem.F.plainAttrs_list PySem.F.slot_list_insert PySem.F.type_list_insert mt_insert (pe_v h1) (pa_cons (sE kx y o.ok h3).1 (pa_cons (sE e v o.ok h4).1 pa_nil (star_cons h4 _ _)) (star_cons h3 _ _)) attr_name (by rw [star_cons h3, star_cons h4]; rfl) h2 (star_cons h3 _ _) (back_any _ _ (by rw [star_cons h4]; rfl))) rfl).imp fun D σ H ⟨H0, M0, M, env, eo, q⟩ => ?_
      simp only [evS] at q
      split at q
      · rename_i m ds ei
        obtain ⟨a, xs, g1, g2, g3, g4, g5⟩ := own_at eo ei
        refine ⟨_, g1, .inl ⟨rfl, xs, .inl (.inl g4)⟩, H0, M0, M, env, eo, (Sp.of eo q).imp fun r2 _ q v2 H1 s1 rv2 => ?_⟩
        split at q
        · rename_i n hn
          refine ⟨H0, M0, M, env, eo.up s1, (Sp.of (eo.up s1) q).imp fun r _ q v H2 s2 rv => ?_⟩
          obtain ⟨pr, es, q⟩ := sp_sto q
          have s12 := s1.trans s2
          split at q
          · rename_i hz
            simp only [Bool.and_eq_true, decide_eq_true_eq] at hz
            have q4 := s12 _ _ g4
            refine ⟨a, xs, n, v, rfl, by rw [sc_sc rv2 hn], q4, by rw [g5.length]; exact hz.1.1, hz.1.2, hz.2, ?_⟩
            have k5 := dts_mut (o := .lst (xs.take n.toNat ++ [v] ++ xs.drop n.toNat)) g2 q4 ((sm_dts s12 g5).wk (L' := Lm H0 M (m || pr.1)) fun _ => Lm.orl)
            obtain ⟨k, ev⟩ := (eo.up s12).mut (o := .lst (xs.take n.toNat ++ [v] ++ xs.drop n.toNat)) (m' := m || pr.1) (d' := .list (ds.take n.toNat ++ [pr.2] ++ ds.drop n.toNat)) ei g1 g2 g3 trivial
              (.lst upd_same (((k5.take n.toNat).append (dts_mut g2 q4 (.cons ((rv.sto es).wk fun _ => Lm.orr) .nil))).append (k5.drop n.toNat)))
            exact q σ _ M k ((Evo.post s12).trans ev)
          · exact q.elim
        · exact q.elim
      · exact q.elim
    · cases h
  | .popS z i, X, E, s, o, h => by
    simp only [okS] at h
    split at h
    · rename_i x p y p2 m ap cp pos
      simp only [Bool.and_eq_true, decide_eq_true_eq] at h
      obtain ⟨⟨⟨h1, h2⟩, rfl⟩, h3⟩ := h
      refine (ps_asg (pe_bm0 PySem.F.plainAttrs_list PySem.F.slot_list_pop PySem.F.type_list_pop mt_pop (pe_v h2) attr_name h3) (pg_ok o.ok.nd o.fnIn h1) rfl rfl rfl).imp fun D σ H ⟨H0, M0, M, env, eo, q⟩ => ?_
      simp only [evS] at q
      split at q
      · rename_i m ds ei
        obtain ⟨a, xs, g1, g2, g3, g4, g5⟩ := own_at eo ei
        split at q
        · rename_i d hd
          obtain ⟨v, hv, t⟩ := g5.get hd
          split at q
          · exact q.elim
          · rename_i hne
            refine ⟨_, g1, .inl ⟨rfl, xs, .inl (.inl g4)⟩, a, xs, v, rfl, rfl, g4, by rw [g5.length]; exact hv, ?_⟩
            obtain ⟨k, ev⟩ := eo.mut (o := .lst xs.dropLast) (m' := m) (d' := .list ds.dropLast) ei g1 g2 g3 trivial
              (.lst upd_same (by rw [List.dropLast_eq_take, List.dropLast_eq_take, g5.length]; exact (dts_mut g2 g4 g5).take _))
            unfold setSl at q
            split at q
            · rename_i hz
              exact q _ _ M (k.set_fr (dts_mut g2 g4 (.cons t .nil)).cons_inv.1 hz) ev
            · exact q.elim
        · exact q.elim
      · exact q.elim
    · cases h
  | .popI z i kx, X, E, s, o, h => by
    simp only [okS] at h
    split at h
    · rename_i x p y p2 m ap v cp pos
      simp only [Bool.and_eq_true, decide_eq_true_eq] at h
      obtain ⟨⟨⟨⟨h1, h2⟩, rfl⟩, h3⟩, h4⟩ := h
      refine (ps_asg (pe_bm PySem.F.plainAttrs_list PySem.F.slot_list_pop PySem.F.type_list_pop mt_popAt (pe_v h2) (pa_cons (sE kx v o.ok h4).1 pa_nil (star_cons h4 _ _)) attr_name (few1 h4) h3 (star_cons h4 _ _) rfl) (pg_ok o.ok.nd o.fnIn h1) rfl rfl rfl).imp fun D σ H ⟨H0, M0, M, env, eo, q⟩ => ?_
      simp only [evS] at q
      split at q
      · rename_i m ds ei
        obtain ⟨a, xs, g1, g2, g3, g4, g5⟩ := own_at eo ei
        refine ⟨_, g1, .inl ⟨rfl, xs, .inl (.inl g4)⟩, H0, M0, M, env, eo, (Sp.of eo q).imp fun r _ q w H1 s1 rv => ?_⟩
        split at q
        · rename_i n hn
          split at q
          · rename_i hsm
            split at q
            · rename_i j hj
              split at q
              · rename_i d hd
                have q4 := s1 _ _ g4
                have g6 := sm_dts s1 g5
                obtain ⟨v', hv, t⟩ := g6.get hd
                split at q
                · exact q.elim
                · rename_i hne
                  simp only [sm, Bool.and_eq_true, decide_eq_true_eq] at hsm
                  refine ⟨a, xs, n, j, v', rfl, by rw [sc_sc rv hn], q4, by omega, by omega, by rw [g5.length]; exact (ixN_seq hj).1, hv, ?_⟩
                  obtain ⟨k, ev⟩ := (eo.up s1).mut (o := .lst (xs.eraseIdx j)) (m' := m) (d' := .list (ds.eraseIdx j)) ei g1 g2 g3 trivial
                    (.lst upd_same (by rw [List.eraseIdx_eq_take_drop_succ, List.eraseIdx_eq_take_drop_succ]; exact ((dts_mut g2 q4 g6).take _).append ((dts_mut g2 q4 g6).drop _)))
                  unfold setSl at q
                  split at q
                  · rename_i hz
                    exact q _ _ M (k.set_fr (dts_mut g2 q4 (.cons t .nil)).cons_inv.1 hz) ((Evo.post s1).trans ev)
                  · exact q.elim
              · exact q.elim
            · exact q.elim
          · exact q.elim
        · exact q.elim
      · exact q.elim
    · cases h
  | .raise_ x m, X, E, s, o, h => by
    simp only [okS] at h
    split at h
    · simp only [Bool.and_eq_true, decide_eq_true_eq] at h
      obtain ⟨⟨⟨rfl, rfl⟩, h1⟩, h2⟩ := h
      exact (o.rz x m _ _ _ _ _ h1 (gl_of h2).1).imp fun D σ H ⟨H0, M0, M, env, eo, q⟩ => fun C hC => q C H hC eo.same
    · cases h
  | .dput i kx e, X, E, s, o, h => by
    simp only [okS] at h
    split at h
    · rename_i x p y p2 v pos
      simp only [Bool.and_eq_true, Bool.not_eq_true'] at h
      obtain ⟨⟨⟨h1, h2⟩, h3⟩, h4⟩ := h
      have hu1 : X.A.units + 1 < cLine := by have := o.ok.hu; omega
      refine (ps_dput hu1 (pe_v h1) (sE kx y o.ok h2).1 (sE e v o.ok h3).1 (show swapsWith v (some (.Subscript (.Name x p) y p2)) pos.line X.env = pure false from @sw_sub v (.Name x p) y p2 pos.line X.env)).imp fun D σ H ⟨H0, M0, M, env, eo, q⟩ => ?_
      simp only [evS] at q
      refine ⟨H0, M0, M, env, eo, (Sp.of eo q).imp fun r _ q v H1 s1 rv => ?_⟩
      obtain ⟨pr, es, q⟩ := sp_sto q
      split at q
      · rename_i m ds ei
        obtain ⟨a, g1, g2, g3, g4⟩ := eo.sl i _ ei
        cases g4 with
        | @dK kvs _ g4 hk hv =>
          refine ⟨_, g1, H0, M0, M, env, eo.up s1, (Sp.of (eo.up s1) q).imp fun r2 _ q u H2 s2 rv2 => ?_⟩
          have s12 := s1.trans s2
          split at q
          · rename_i key hkey
            split at q
            · rename_i hz
              simp only [Bool.and_eq_true, Bool.not_eq_true', decide_eq_true_eq] at hz
              obtain ⟨hz1, hz2⟩ := hz
              have c2 := rv2.cn
              rw [hkey] at c2
              cases c2
              have q4 := s12 _ _ g4
              have hnone : valV kvs (.inr key) = none := by
                have := has_val hk key
                rw [hz1] at this
                cases e : valV kvs (.inr key) with
                | none => rfl
                | some _ => rw [e] at this; cases this
              have hlen : kvs.length = ds.length := by
                have := congrArg List.length hk
                simpa using this.symm
              refine ⟨a, _, rfl, DPut.k (k := .inr key) q4 (by rw [hlen]; exact hz2), ?_⟩
              rw [putK_new _ hnone]
              have dvm : ∀ {ws : List V} {fs : List (En.D × En.D)} {mm : Bool}, Dvs H2 (Lm H0 M mm) ws fs → Dvs (upd H2 a (.dK (kvs ++ [(.inr key, v)]))) (Lm H0 M mm) ws fs := fun {ws fs mm} t => Dvs.go (fun b w l e => ⟨by rw [upd_ne (fun z => l.1 (by rw [z]; exact g2))]; exact e, l⟩) (fun b ys r => by
                have nb : b ≠ a := fun z => by
                  rw [z] at r
                  rcases r with r | ⟨o', r⟩
                  · rw [q4] at r; cases r
                  · rw [q4] at r; cases r
                rcases r with r | ⟨o', r⟩
                · exact .inl (by rw [upd_ne nb]; exact r)
                · exact .inr ⟨o', by rw [upd_ne nb]; exact r⟩) fs ws t
              obtain ⟨k', ev⟩ := (eo.up s12).mut (o := .dK (kvs ++ [(.inr key, v)])) (m' := m || pr.1) (d' := .dict (ds ++ [(.str key, pr.2)])) ei g1 g2 g3 trivial
                (.dK upd_same (by rw [List.map_append, List.map_append, hk]; rfl) (by
                  rw [List.map_append]
                  refine Dvs.app (dvm (Dvs.wk (fun _ => Lm.orl) (sm_dvs s12 hv))) ?_
                  have t2 : Dvs H2 (Lm H0 M (m || pr.1)) [v] [((.str key : En.D), pr.2)] := .cons ((sm_dt s2 (rv.sto es)).wk fun _ => Lm.orr) .nil
                  have t3 := dvm t2
                  cases t3 with
                  | cons t _ => exact t))
              exact q σ _ M k' ((Evo.post s12).trans ev)
            · exact q.elim
          · exact q.elim
      · exact q.elim
    · cases h
  | .mov i j, X, E, s, o, h => by
    simp only [okS] at h
    split at h
    · simp only [Bool.and_eq_true] at h
      obtain ⟨w1, w2⟩ := tg_loc h.1
      refine (ps_set o.ok.nd w1 w2 (pe_v h.2) rfl (.inl (o.fn _))).imp fun D σ H ⟨H0, M0, M, env, eo, q⟩ => ?_
      simp only [evS] at q
      split at q
      · rename_i m d e
        split at q
        · rename_i hc
          obtain ⟨a, h1, h2, h3, t⟩ := eo.sl j _ e
          exact ⟨_, h1, q _ H M (eo.move e h1 hc.1 hc.2) (Evo.refl _ _)⟩
        · exact q.elim
      · exact q.elim
    · cases h
  | .try_ b tb n sx, X, E, s, o, h => by
    simp only [okS] at h
    refine (try_ok o h).imp fun D σ H ⟨H0, M0, M, env, eo, q⟩ => ?_
    simp only [evS] at q
    exact ⟨H0, M0, M, env, eo, q⟩
  | .brk, X, E, s, o, h => by
    simp only [okS] at h
    split at h
    · exact ps_break.imp fun D σ H ⟨H0, M0, M, env, eo, q⟩ => q σ H M eo (Evo.refl _ _)
    · cases h
  | .cnt, X, E, s, o, h => by
    simp only [okS] at h
    split at h
    · exact ps_continue.imp fun D σ H ⟨H0, M0, M, env, eo, q⟩ => q σ H M eo (Evo.refl _ _)
    · cases h
  | .never, X, E, s, o, h => ⟨fun pins s' σ H D I ⟨H0, M0, M, env, eo, q⟩ => by
      simp only [evS] at q
      exact q.elim⟩
theorem sSs : ∀ (m : MSs) {X : Cx} {E : XK} (s : List Stmt), OkS X Γ E k ex → okSs ex X.N X.env.scope m s = true → PSs X s (tSs Γ fuel E X.mg m)
  | .nil, X, E, s, o, h => by
    simp only [okSs] at h
    split at h
    · exact pss_nil.imp fun D σ H ⟨H0, M0, M, env, eo, q⟩ => q σ H M eo (Evo.refl _ _)
    · cases h
  | .cons m r, X, E, s, o, h => by
    simp only [okSs] at h
    split at h
    · simp only [Bool.and_eq_true] at h
      refine (pss_cons (sS m _ o h.1) (sSs r _ o h.2)).imp fun D σ H ⟨H0, M0, M, env, eo, q⟩ => ?_
      simp only [evSs] at q
      exact ⟨H0, M0, M, env, eo, q.then fun env' σ' H' M' q' k' e' => ⟨H0, M0, M', env', k', q'.base e'⟩⟩
    · cases h
  | .frz i r, X, E, s, o, h => by
    simp only [okSs] at h
    refine (sSs r s o h).imp fun D σ H ⟨H0, M0, M, env, eo, q⟩ => ?_
    simp only [evSs] at q
    split at q
    · rename_i m d e
      obtain ⟨a, h1, h2, h3, t⟩ := eo.sl i _ e
      obtain ⟨k, ev⟩ := eo.freeze e h1 h3 t
      exact ⟨H0, M0, _, _, k, q.base ev⟩
    · exact q.elim
end
end
end En

set_option Elab.async false
set_option linter.all false
set_option maxRecDepth 100000
set_option maxHeartbeats 4000000
namespace En
open PySem PySem.Spec PyProof.Rows L2

/-! ### a def by its mini-text -/
theorem startE_len {n : Nat} {ds : List D} (h : ds.length ≤ n) : (startE n ds).length = n := by
  unfold startE
  rw [List.length_append, List.length_map, List.length_replicate]
  omega
theorem start_len {N : List Str} {vs : List V} (h : vs.length ≤ N.length) : (L2.start N vs).length = N.length := by
  unfold L2.start
  rw [List.length_append, List.length_map, List.length_replicate]
  omega
theorem env_start {H : Hp} {M : AS} {N : List Str} {vs : List V} {ds : List D} (hM : ∀ a, M a → ∃ o, H a = some o ∧ Mut (some o)) (h : Dts H (fun a => ¬ M a) vs ds) (hl : vs.length ≤ N.length) : EnvOk H M H M (L2.start N vs) (startE N.length ds) := by
  have hd : ds.length ≤ N.length := by rw [← h.length]; exact hl
  refine ⟨by rw [start_len hl, startE_len hd], Same.refl _, fun a m => ⟨m, fun z => ?_⟩, hM, fun i s e => ?_, fun i j m d m' d' a e1 => ?_⟩
  · obtain ⟨o, q, _⟩ := hM a m
    rw [z] at q
    cases q
  · by_cases hi : i < ds.length
    · unfold startE at e
      rw [List.getElem?_append_left (by simpa using hi), List.getElem?_map] at e
      cases e1 : ds[i]? with
      | none => rw [e1] at e; cases e
      | some d =>
        rw [e1] at e
        cases e
        obtain ⟨v, e2, t⟩ := h.get e1
        refine ⟨v, ?_, ?_⟩
        · unfold L2.start
          rw [List.getElem?_append_left (by rw [List.length_map, h.length]; exact hi), List.getElem?_map, e2]
          rfl
        · cases q : imm d with
          | true => exact Dt.imm d v q t
          | false => exact t.wk fun a l => ⟨l, fun z => by cases z⟩
    · unfold startE at e
      rw [List.getElem?_append_right (by simpa using hi)] at e
      have := List.mem_of_getElem? e
      rw [List.mem_replicate] at this
      rw [this.2]
      trivial
  · unfold startE at e1
    have := List.mem_of_getElem? e1
    rw [List.mem_append, List.mem_map, List.mem_replicate] at this
    rcases this with ⟨d, _, z⟩ | ⟨_, z⟩ <;> cases z

section
variable {P : Program} {w : World} {K : PySem.W.Frag} {mg : Str → Option Value} {base : Heap}
/-- the builtins' names stand unshadowed -/
def Blt (mg : Str → Option Value) : Prop := ∀ f : Str, f ∈ ([("len" : Str), "list", "tuple", "sum", "min", "max", "int", "any", "all", "sorted", "isinstance", "range", "zip", "enumerate", "reversed", "str", "bool", "set", "dict"] : List Str) → mg f = none
/-- the table of the defs -/
def FnsOk (P : Program) (w : World) (K : PySem.W.Frag) (mg : Str → Option Value) (base : Heap) (k : Nat) (Γ : FT) : Prop :=
  ∀ f n g, Γ f = some (n, g) → ∃ fa fd ps, FnOk P w K mg base (L2.CX P w) k fa fd ps (spG mg n g) ∧ mg f = some (.ref fa) ∧ PySem.W.keepIn K (.ref fa) = true ∧ Binds K fd ps []
/-- the refusals -/
structure RzOk (ex : Ex) (mg : Str → Option Value) (P : Program) (w : World) (K : PySem.W.Frag) (base : Heap) : Prop where
  rz : ∀ (X : Cx) (E : XK) (x m : Str) (j : Nat) (p p2 p3 pos : Pos), X.prog = P → X.w = w → X.K = K → X.mg = mg → X.calm = true → Takes X (fun c d _ H => E c d H) → x ∈ ex.rz → Gl X x → PS X (.Raise (some (.Call (.Name x p) [.Constant (.str m) j p2] [] p3)) none pos) (fun _ _ H => ∀ C, mg x = some (.ref C) → E (.ref C) none H)
  cl : ∀ T, T ∈ ex.cl → ∃ cT, mg T = some (.ref cT)
  xf : ∀ x, x ∈ ex.xs → ∀ C, mg x = some (.ref C) → XFact ex mg P w K base x C
theorem sp_run {E : XK} {H : Hp} {M : AS} {Q : VK} {Γ : FT} {fuel : Nat} {f : MF} {ds : List D} (h : Rp E mg H (runF Γ fuel f ds) fun r => ∀ v H', Same H H' → RvOk H M H H' v r → Q v H') :
    Sp E mg { nx := fun _ H' => Q .non H', rt := Q } H M H M (evSs Γ fuel f.body (startE f.slots ds)) := by
  unfold runF at h
  split at h <;> rename_i e <;> rw [e]
  · exact h
  · exact h
  · exact fun σ' H' M' k _ => h _ _ k.same (show RvOk _ _ _ _ V.non (.fr false .none) from .non)
  · refine fun v H' M' s m q => h v H' s ?_
    have wk : ∀ {m' : Bool} (a : Addr), Lm H M' m' a → Lm H M m' a := fun {m'} a l => ⟨fun z => l.1 (m a z), l.2⟩
    cases ‹Rv› with
    | fr b d => exact Dt.wk wk q
    | ow b d =>
      obtain ⟨a, x, y, z, u, t⟩ := q
      exact ⟨a, x, y, fun z' => z (m a z'), u, t.wk fun c l => ⟨wk c l.1, l.2⟩⟩
    | bo b d => exact q.wk wk
  · exact h.elim
  · exact h.elim
theorem fn_ok {x qual : Str} {st : Stmt} {fa : Addr} {fd : FuncData} {N ps : List Str} {k : Nat} {Γ : FT} {ex : Ex} (F : Fun K x qual st fa fd) (S : FnScope N ps (defScope st)) (mf : MF) (hn : mf.slots = N.length) (hp : ps.length ≤ N.length) (fuel : List D → Nat)
    (hc : okSs ex N (defScope st) mf.body (defBody st) = true) (blt : Blt mg) (fns : FnsOk P w K mg base k Γ) (rz : RzOk ex mg P w K base) :
    FnOk P w K mg base (L2.CX P w) (k + 3) fa fd ps (spG mg ps.length fun ds => runF Γ (fuel ds) mf ds) := by
  refine F.okX S (fun vs H Q E h => h.1) (fun cdv A outer s H vs Q E hr h => ?_)
  obtain ⟨hl, M, ds, hM, hD, h⟩ := h
  have tk : Takes (cxOf (L2.CX P w) P w K mg base N qual (defScope st) fa cdv A outer s H E) (fun c d _ H => E c d H) := takes_of rfl rfl rfl rfl
  have o : OkS (cxOf (L2.CX P w) P w K mg base N qual (defScope st) fa cdv A outer s H E) Γ E k ex :=
    ⟨⟨rfl, S.nd, by have := hr.un; show (A.deeper _).units + 65 < cLine; omega, hr, tk, blt, fns⟩, fun _ => rfl, S.kind, passes_of rfl, fun x m j p p2 p3 pos hx hg => rz.rz _ E x m j p p2 p3 pos rfl rfl rfl rfl rfl tk hx hg, rfl, rfl, rz.cl, rz.xf⟩
  refine ⟨_, sSs mf.body (defBody st) o hc, H, M, M, startE mf.slots ds, ?_, sp_run h⟩
  rw [hn]
  exact env_start hM hD (by rw [hl]; exact hp)
end
end En

set_option Elab.async false
set_option linter.all false
set_option maxRecDepth 100000
set_option maxHeartbeats 4000000
namespace En
open PySem PySem.Spec PyProof.Rows L2

/-! ### a table of defs, one behind the other -/
/-- a def stands at the top -/
def Has (K : PySem.W.Frag) (mg : Str → Option Value) (x : Str) (st : Stmt) (ps : List Str) : Prop := ∃ fa fd, Fun K x x st fa fd ∧ mg x = some (.ref fa) ∧ Binds K fd ps []
def put (Γ : FT) (x : Str) (n : Nat) (g : List D → R Rv) : FT := fun y => if y = x then some (n, g) else Γ y
theorem put_self {Γ : FT} {x : Str} {n : Nat} {g : List D → R Rv} : put Γ x n g x = some (n, g) := if_pos rfl
theorem put_ne {Γ : FT} {x y : Str} {n : Nat} {g : List D → R Rv} (h : decide (y = x) = false) : put Γ x n g y = Γ y := if_neg (of_decide_eq_false h)
section
variable {P : Program} {w : World} {K : PySem.W.Frag} {mg : Str → Option Value} {base : Heap}
theorem fns0 : FnsOk P w K mg base 0 fun _ => none := fun f n g h => nomatch h
theorem fns_put {x : Str} {st : Stmt} {N ps : List Str} {k : Nat} {Γ : FT} {ex : Ex} (G : FnsOk P w K mg base k Γ) (h : Has K mg x st ps) (S : FnScope N ps (defScope st)) (mf : MF) (fuel : List D → Nat)
    (hc : (decide (mf.slots = N.length) && decide (ps.length ≤ N.length) && okSs ex N (defScope st) mf.body (defBody st)) = true) (blt : Blt mg) (rz : RzOk ex mg P w K base) :
    FnsOk P w K mg base (k + 3) (put Γ x ps.length fun ds => runF Γ (fuel ds) mf ds) := by
  obtain ⟨fa, fd, F, hm, hb⟩ := h
  simp only [Bool.and_eq_true, decide_eq_true_eq] at hc
  have F2 := fn_ok (P := P) (w := w) (base := base) F S mf hc.1.1 hc.1.2 fuel hc.2 blt G rz
  intro f n g e
  unfold put at e
  split at e
  · rename_i e1
    subst e1
    cases e
    exact ⟨fa, fd, ps, F2, hm, F.kp, hb⟩
  · obtain ⟨fa, fd, ps, F3, q⟩ := G f n g e
    exact ⟨fa, fd, ps, F3.mono (by omega), q⟩
theorem rz0 : RzOk (exL []) mg P w K base := ⟨(fun X E x m j p p2 p3 pos _ _ _ _ _ _ hx => nomatch hx), (fun T h => nomatch h), (fun x h => nomatch h)⟩
/-- the law's own promise -/
def spLaw (K : PySem.W.Frag) : L2.Sp := fun vs H Q _ => ∃ (a : Addr) (ns : List Int), vs = [.ref a] ∧ SqL K H a (ns.map V.int) ∧ ns.length ≤ 63 ∧ Only H ∧ ∀ H', Q (.bl true) H'
def noList (K : PySem.W.Frag) : Bool := K.all fun p => !(p.2.cls == .type "list")
theorem noList_lookup {K : PySem.W.Frag} (h : noList K = true) {a : Addr} {o : Obj} (e : K.lookup a = some o) : o.cls ≠ .type "list" := by
  unfold noList at h
  induction K with
  | nil => cases e
  | cons p r ih =>
    obtain ⟨b, x⟩ := p
    rw [List.all_cons, Bool.and_eq_true] at h
    rw [List.lookup_cons] at e
    cases hb : a == b with
    | true =>
      rw [hb] at e
      cases e
      intro z
      have := h.1
      simp [z] at this
    | false =>
      rw [hb] at e
      exact ih h.2 e
theorem ints_dts2 {H : Hp} {L : AS} : ∀ ns : List Int, Dts H L (ns.map V.int) (ns.map PyData.int)
  | [] => .nil
  | n :: ns => .cons (.int n) (ints_dts2 ns)
theorem law_one {k : Nat} {fa : Addr} {fd : FuncData} {ps : List Str} {g : List D → R Rv} (F : FnOk P w K mg base (L2.CX P w) k fa fd ps (spG mg ps.length g)) (nl : noList K = true) (hp : ps.length = 1 := by rfl)
    (hg : ∀ ns : List Int, ns.length ≤ 63 → g [.list (ns.map .int)] = .ok (.fr false (.bool true))) : FnOk P w K mg base (L2.CX P w) k fa fd ps (spLaw K) := by
  refine F.imp fun vs H Q E h => ?_
  obtain ⟨a, ns, rfl, hS, hl, hO, q⟩ := h
  refine ⟨hp.symm, fun _ => False, [.list (ns.map .int)], fun a h => h.elim, ?_, ?_⟩
  · rcases hS with r | ⟨o, its, n, e, hc, _⟩
    · exact .cons (.lst (fun h => h) r (ints_dts2 ns)) .nil
    · exact absurd hc (noList_lookup nl e)
  · rw [hg ns hl]
    intro v H' s rv
    have rv : Dt H' _ v (.bool true) := rv
    cases rv
    exact q H'
theorem cx_end {P : Program} {w : World} {H : Hp} {s s' : Shared} {e : Value} (h : L2.CX P w [] H s (fun _ _ _ => False) e s') : False := by
  obtain ⟨_, _, _, _, _, _, _, _, _, _, _, _, z⟩ := h
  exact z
end
end En

set_option Elab.async false
set_option linter.all false
set_option maxRecDepth 100000
set_option maxHeartbeats 4000000
namespace En
open PySem PySem.Spec PyProof.Rows L2

/-! ### the run's laws, for simp: they fire on what is told, not on what is open -/
section
variable {α β : Type} {Γ : FT} {fuel : Nat} {env : List Sl}
@[simp] theorem bind_ok' (a : α) (f : α → R β) : (R.ok a).bind f = f a := (rfl)
@[simp] theorem bind_err' (x : Str) (f : α → R β) : (R.err x : R α).bind f = .err x := (rfl)
@[simp] theorem bind_ite (c : Prop) [Decidable c] (a b : R α) (f : α → R β) : (if c then a else b).bind f = if c then a.bind f else b.bind f := by split <;> rfl
@[simp] theorem then_next (e : List Sl) (f : List Sl → Fl) : (Fl.next e).then f = f e := (rfl)
@[simp] theorem then_ret (r : Rv) (f : List Sl → Fl) : (Fl.ret r).then f = .ret r := (rfl)
@[simp] theorem then_err (r : Str) (f : List Sl → Fl) : (Fl.err r).then f = .err r := (rfl)
@[simp] theorem then_brk (e : List Sl) (f : List Sl → Fl) : (Fl.brk e).then f = .brk e := (rfl)
@[simp] theorem then_cnt (e : List Sl) (f : List Sl → Fl) : (Fl.cnt e).then f = .cnt e := (rfl)
@[simp] theorem then_ite (c : Prop) [Decidable c] (a b : Fl) (f : List Sl → Fl) : (if c then a else b).then f = if c then a.then f else b.then f := by split <;> rfl
@[simp] theorem of_ok' (a : α) (f : α → Fl) : Fl.of (.ok a) f = f a := (rfl)
@[simp] theorem of_err' (x : Str) (f : α → Fl) : Fl.of (.err x : R α) f = .err x := (rfl)
@[simp] theorem of_ite (c : Prop) [Decidable c] (a b : R α) (f : α → Fl) : Fl.of (if c then a else b) f = if c then Fl.of a f else Fl.of b f := by split <;> rfl
-- statements
@[simp] theorem ss_nil : evSs Γ fuel .nil env = .next env := by rw [evSs]
@[simp] theorem ss_cons (s : MS) (r : MSs) : evSs Γ fuel (.cons s r) env = (evS Γ fuel s env).then fun e => evSs Γ fuel r e := by rw [evSs]
def frzR (o : Option Sl) (i : Nat) (env : List Sl) (f : List Sl → Fl) : Fl := match o with
  | some (.ow m d) => f (env.set i (.fr m d))
  | _ => .bad
@[simp] theorem frzR_ow (m : Bool) (d : D) (i : Nat) (f : List Sl → Fl) : frzR (some (.ow m d)) i env f = f (env.set i (.fr m d)) := (rfl)
@[simp] theorem ss_frz (i : Nat) (r : MSs) : evSs Γ fuel (.frz i r) env = frzR env[i]? i env (evSs Γ fuel r) := by rw [evSs]; rfl
@[simp] theorem s_skip : evS Γ fuel .skip env = .next env := by rw [evS]
@[simp] theorem s_set (i : Nat) (e : ME) (own : Bool) : evS Γ fuel (.set i e own) env = .of (evE Γ env e) (put1 own i env) := by rw [evS]
def unpR (x : Rv) (l : List Nat) (env : List Sl) : Fl := if isBo x then .bad else match x.d with
  | .tuple ds => .of (setAll x.m l ds env) .next
  | .list ds => .of (setAll x.m l ds env) .next
  | _ => .bad
@[simp] theorem unpR_lf (m : Bool) (ds : List D) (l : List Nat) : unpR (.fr m (.list ds)) l env = .of (setAll m l ds env) .next := (rfl)
@[simp] theorem unpR_lo (m : Bool) (ds : List D) (l : List Nat) : unpR (.ow m (.list ds)) l env = .of (setAll m l ds env) .next := (rfl)
@[simp] theorem unpR_fr (m : Bool) (ds : List D) (l : List Nat) : unpR (.fr m (.tuple ds)) l env = .of (setAll m l ds env) .next := (rfl)
@[simp] theorem s_unp (l : List Nat) (e : ME) : evS Γ fuel (.unp l e) env = .of (evE Γ env e) fun x => unpR x l env := by rw [evS]; rfl
@[simp] theorem s_par (i j : Nat) (a b : ME) : evS Γ fuel (.par i j a b) env = .of (evEs Γ env (.cons a (.cons b .nil))) fun rs => .of (stos rs) fun p => .of (setAll p.1 [i, j] p.2 env) .next := by rw [evS]
def retR (x : Rv) : Fl := if isBo x then .bad else .ret x
@[simp] theorem retR_fr (m : Bool) (d : D) : retR (.fr m d) = .ret (.fr m d) := (rfl)
@[simp] theorem retR_ow (m : Bool) (d : D) : retR (.ow m d) = .ret (.ow m d) := (rfl)
@[simp] theorem s_ret (e : ME) : evS Γ fuel (.ret e) env = .of (evE Γ env e) retR := by rw [evS]; rfl
@[simp] theorem s_retN : evS Γ fuel .retN env = .ret (.fr false .none) := by rw [evS]
def retoR (o : Option Sl) : Fl := match o with
  | some (.ow m d) => .ret (.ow m d)
  | _ => .bad
@[simp] theorem retoR_ow (m : Bool) (d : D) : retoR (some (.ow m d)) = .ret (.ow m d) := (rfl)
@[simp] theorem s_reto (i : Nat) : evS Γ fuel (.reto i) env = retoR env[i]? := by rw [evS]; rfl
def ifR (t : Bool) (a b : Fl) : Fl := if t then a else b
@[simp] theorem ifR_t (a b : Fl) : ifR true a b = a := (rfl)
@[simp] theorem ifR_f (a b : Fl) : ifR false a b = b := (rfl)
@[simp] theorem s_ife (c : ME) (a b : MSs) : evS Γ fuel (.ife c a b) env = .of ((evE Γ env c).bind truth) fun t => ifR t (evSs Γ fuel a env) (evSs Γ fuel b env) := by rw [evS]; rfl
@[simp] theorem s_for (g : MG) (it : MI) (b : MSs) : evS Γ fuel (.for_ g it b) env = .of (evI Γ env it) fun p => forR (fun d e => .of (bindG g p.1 d e) fun e' => evSs Γ fuel b e') p.2 env := by rw [evS]
@[simp] theorem s_whl (c : ME) (b : MSs) : evS Γ fuel (.whl c b) env = whlR (fun e => (evE Γ e c).bind truth) (fun e => evSs Γ fuel b e) fuel env := by rw [evS]
@[simp] theorem s_exp (e : ME) : evS Γ fuel (.exp e) env = .of (evE Γ env e) fun _ => .next env := by rw [evS]
def appR (o : Option Sl) (i : Nat) (env : List Sl) (x : R Rv) : Fl := match o with
    | some (.ow m (.list ds)) => .of x fun x => .of (sto x) fun p => if decide (ds.length < sizeLine) then .next (env.set i (.ow (m || p.1) (.list (ds ++ [p.2])))) else .bad
    | _ => .bad
@[simp] theorem appR_ow (m : Bool) (ds : List D) (i : Nat) (x : R Rv) : appR (some (.ow m (.list ds))) i env x = .of x fun x => .of (sto x) fun p => if ds.length < sizeLine then .next (env.set i (.ow (m || p.1) (.list (ds ++ [p.2])))) else .bad := by
  simp only [appR, decide_eq_true_eq]
@[simp] theorem s_app (i : Nat) (e : ME) : evS Γ fuel (.app i e) env = appR env[i]? i env (evE Γ env e) := by rw [evS]; rfl
def extR (o : Option Sl) (i : Nat) (env : List Sl) (x : R Rv) : Fl := match o with
    | some (.ow m (.list ds)) => .of x fun x => match x.d with
      | .list es => if fits (ds.length + es.length) then .next (env.set i (.ow (m || x.m) (.list (ds ++ es)))) else .bad
      | _ => .bad
    | _ => .bad
def extL (m : Bool) (ds : List D) (i : Nat) (env : List Sl) (m' : Bool) : D → Fl
  | .list es => if ds.length + es.length ≤ sizeLine then .next (env.set i (.ow (m || m') (.list (ds ++ es)))) else .bad
  | _ => .bad
@[simp] theorem extR_ow (m : Bool) (ds : List D) (i : Nat) (x : R Rv) : extR (some (.ow m (.list ds))) i env x = .of x fun x => extL m ds i env x.m x.d := by
  simp only [extR]
  congr 1
  funext x
  cases x.d <;> simp [extL, fits]
@[simp] theorem extL_list (m m' : Bool) (ds es : List D) (i : Nat) : extL m ds i env m' (.list es) = if ds.length + es.length ≤ sizeLine then .next (env.set i (.ow (m || m') (.list (ds ++ es)))) else .bad := (rfl)
@[simp] theorem s_ext (i : Nat) (e : ME) : evS Γ fuel (.ext i e) env = extR env[i]? i env (evE Γ env e) := by rw [evS]; rfl
def dputR (o : Option Sl) (i : Nat) (env : List Sl) (x : R Rv) (y : R Rv) : Fl := .of x fun x => .of (sto x) fun p => match o with
  | some (.ow m (.dict es)) => .of y fun y => match y.d with
    | .str key => if !hasS es key && decide (es.length < sizeLine) then .next (env.set i (.ow (m || p.1) (.dict (es ++ [(.str key, p.2)])))) else .bad
    | _ => .bad
  | _ => .bad
@[simp] theorem s_dput (i : Nat) (k e : ME) : evS Γ fuel (.dput i k e) env = dputR env[i]? i env (evE Γ env e) (evE Γ env k) := by rw [evS]; rfl
@[simp] theorem s_raise (x m : Str) : evS Γ fuel (.raise_ x m) env = .err x := by rw [evS]
@[simp] theorem s_never : evS Γ fuel .never env = .bad := by rw [evS]
@[simp] theorem s_brk : evS Γ fuel .brk env = .brk env := by rw [evS]
@[simp] theorem s_cnt : evS Γ fuel .cnt env = .cnt env := by rw [evS]
-- stores
@[simp] theorem put1_fr (i : Nat) (m : Bool) (d : D) : put1 false i env (.fr m d) = setSl env i (.fr m d) := (rfl)
@[simp] theorem put1_ow (i : Nat) (m : Bool) (d : D) : put1 true i env (.ow m d) = setSl env i (.ow m d) := (rfl)
@[simp] theorem put1_of (i : Nat) (m : Bool) (d : D) : put1 false i env (.ow m d) = setSl env i (.fr m d) := (rfl)
@[simp] theorem setSl_c (i : Nat) (s : Sl) : setSl env i s = if i < env.length then .next (env.set i s) else .bad := (rfl)
@[simp] theorem setAll_nil (m : Bool) : setAll m [] [] env = .ok env := (rfl)
@[simp] theorem setAll_cons (m : Bool) (i : Nat) (is : List Nat) (d : D) (ds : List D) : setAll m (i :: is) (d :: ds) env = if i < env.length then setAll m is ds (env.set i (.fr m d)) else .bad := (rfl)
@[simp] theorem bindG_n (i : Nat) (m : Bool) (d : D) : bindG (.n i) m d env = if i < env.length then .ok (env.set i (.fr m d)) else .bad := (rfl)
@[simp] theorem bindG_t (l : List Nat) (m : Bool) (ds : List D) : bindG (.t l) m (.tuple ds) env = setAll m l ds env := (rfl)
-- expressions
def getR (o : Option Sl) : R Rv := match o with
  | some (.fr m d) => .ok (.fr m d)
  | some (.ow m d) => .ok (.bo m d)
  | some (.kn _ m d) => .ok (.fr m d)
  | _ => .bad
@[simp] theorem getR_fr (m : Bool) (d : D) : getR (some (.fr m d)) = .ok (.fr m d) := (rfl)
@[simp] theorem getR_kn (v : V) (m : Bool) (d : D) : getR (some (.kn v m d)) = .ok (.fr m d) := (rfl)
@[simp] theorem getR_ow (m : Bool) (d : D) : getR (some (.ow m d)) = .ok (.bo m d) := (rfl)
@[simp] theorem e_v (i : Nat) : evE Γ env (.v i) = getR env[i]? := by rw [evE]; rfl
@[simp] theorem e_kn : evE Γ env .kn = .ok (.fr false .none) := by rw [evE]
@[simp] theorem e_kb (b : Bool) : evE Γ env (.kb b) = .ok (.fr false (.bool b)) := by rw [evE]
@[simp] theorem e_ki (b : Int) : evE Γ env (.ki b) = .ok (.fr false (.int b)) := by rw [evE]
@[simp] theorem e_ks (b : Str) : evE Γ env (.ks b) = .ok (.fr false (.str b)) := by rw [evE]
@[simp] theorem e_lst (es : MEs) : evE Γ env (.lst es) = (evEs Γ env es).bind fun rs => (stos rs).bind fun p => if p.2.length ≤ sizeLine then .ok (.ow p.1 (.list p.2)) else .bad := by rw [evE]; simp [fits]
@[simp] theorem e_tup (es : MEs) : evE Γ env (.tup es) = (evEs Γ env es).bind fun rs => (stos rs).bind fun p => if p.2.length ≤ sizeLine then .ok (.fr p.1 (.tuple p.2)) else .bad := by rw [evE]; simp [fits]
@[simp] theorem e_bin (op : Operator) (a b : ME) : evE Γ env (.bin op a b) = (evE Γ env a).bind fun x => (evE Γ env b).bind fun y => lift (x.m || y.m) (semBin op x.d y.d) := by rw [evE]
def negR : D → R Rv
  | .int i => .ok (.fr false (.int (-i)))
  | _ => .bad
@[simp] theorem negR_int (i : Int) : negR (.int i) = .ok (.fr false (.int (-i))) := (rfl)
@[simp] theorem e_neg (a : ME) : evE Γ env (.neg a) = (evE Γ env a).bind fun x => negR x.d := by rw [evE]; rfl
@[simp] theorem e_cmp (op : CmpOp) (a b : ME) : evE Γ env (.cmp op a b) = (evE Γ env a).bind fun x => (evE Γ env b).bind fun y => liftB (semCmp op x.d y.d) := by rw [evE]
def chnR (o : Option Bool) (z : R Rv) : R Rv := match o with
    | some true => z
    | some false => .ok (.fr false (.bool false))
    | none => .bad
@[simp] theorem chnR_t (z : R Rv) : chnR (some true) z = z := (rfl)
@[simp] theorem chnR_f (z : R Rv) : chnR (some false) z = .ok (.fr false (.bool false)) := (rfl)
@[simp] theorem chnR_dec (p : Prop) [Decidable p] (z : R Rv) : chnR (some (decide p)) z = if p then z else .ok (.fr false (.bool false)) := by by_cases h : p <;> simp [h]
@[simp] theorem e_chn (op op2 : CmpOp) (a b c : ME) : evE Γ env (.chn op op2 a b c) = (evE Γ env a).bind fun x => (evE Γ env b).bind fun y => chnR (semCmp op x.d y.d) ((evE Γ env c).bind fun z => liftB (semCmp op2 y.d z.d)) := by rw [evE]; rfl
@[simp] theorem e_bop (con : Bool) (es : MEs) : evE Γ env (.bop con es) = (evB Γ env con es).bind fun b => .ok (.fr false (.bool b)) := by rw [evE]
@[simp] theorem e_not (a : ME) : evE Γ env (.not_ a) = (evE Γ env a).bind fun x => (truth x).bind fun t => .ok (.fr false (.bool (!t))) := by rw [evE]
def itR (t : Bool) (a b : R Rv) : R Rv := if t then a else b
@[simp] theorem itR_t (a b : R Rv) : itR true a b = a := (rfl)
@[simp] theorem itR_f (a b : R Rv) : itR false a b = b := (rfl)
@[simp] theorem e_ite (c a b : ME) : evE Γ env (.ite c a b) = (evE Γ env c).bind fun x => (truth x).bind fun t => itR t (evE Γ env a) (evE Γ env b) := by rw [evE]; rfl
def ixR (m : Bool) (o : Option D) : R Rv := match o with
  | some d => .ok (mk m false d)
  | none => .bad
@[simp] theorem ixR_some (m : Bool) (d : D) : ixR m (some d) = .ok (mk m false d) := (rfl)
@[simp] theorem e_ix (a i : ME) : evE Γ env (.ix a i) = (evE Γ env a).bind fun x => (evE Γ env i).bind fun y => ixR x.m (semIx x.d y.d) := by
  rw [evE]
  congr 1
  funext x
  congr 1
  funext y
  cases semIx x.d y.d <;> rfl
@[simp] theorem e_sl (a : ME) (lo hi : MO) : evE Γ env (.sl a lo hi) = (evE Γ env a).bind fun x => (evO Γ env lo).bind fun l => (evO Γ env hi).bind fun h => lift x.m (semSl x.d l h) := by rw [evE]
@[simp] theorem e_bi (f : Str) (es : MEs) : evE Γ env (.bi f es) = (evEs Γ env es).bind fun rs => lift (anyM rs) (semBi f (rs.map Rv.d)) := by rw [evE]
@[simp] theorem e_isi (a : ME) (T : Str) : evE Γ env (.isi a T) = (evE Γ env a).bind fun x => liftB (semIsi x.d T) := by rw [evE]
@[simp] theorem e_mt (o : ME) (f : Str) (es : MEs) : evE Γ env (.mt o f es) = (evE Γ env o).bind fun x => if (isStr x.d).isSome then (evEs Γ env es).bind fun rs => lift (x.m || anyM rs) (semMt x.d f (rs.map Rv.d)) else .bad := by rw [evE]
@[simp] theorem isStr_str (x : Str) : isStr (.str x) = some x := (rfl)
def callQ (o : Option (Nat × (List D → R Rv))) (rs : List Rv) : R Rv := match o with
  | some (n, g) => if rs.length = n then (g (rs.map Rv.d)).bind (ans (rs.any isBo)) else .bad
  | none => .bad
@[simp] theorem callQ_some (n : Nat) (g : List D → R Rv) (rs : List Rv) : callQ (some (n, g)) rs = if rs.length = n then (g (rs.map Rv.d)).bind (ans (rs.any isBo)) else .bad := (rfl)
def lixR (o : Option Int) : R Rv := match o with
  | some j => .ok (.fr false (.int j))
  | none => .bad
@[simp] theorem lixR_some (j : Int) : lixR (some j) = .ok (.fr false (.int j)) := (rfl)
def lixL (d : D) (y : R Rv) : R Rv := match d with
  | .list ds => y.bind fun y => lixR (semLix (.list ds) y.d)
  | _ => .bad
@[simp] theorem lixL_list (ds : List D) (y : R Rv) : lixL (.list ds) y = y.bind fun y => lixR (semLix (.list ds) y.d) := (rfl)
@[simp] theorem e_lix (a b : ME) : evE Γ env (.lix a b) = (evE Γ env a).bind fun x => lixL x.d (evE Γ env b) := by rw [evE]; rfl
theorem e_call {f : Str} {n : Nat} {g : List D → R Rv} (h : Γ f = some (n, g)) (es : MEs) : evE Γ env (.call f es) = (evEs Γ env es).bind fun rs => if rs.length = n then (g (rs.map Rv.d)).bind (ans (rs.any isBo)) else .bad := by rw [evE, h]
def lcT (Γ : FT) (env : List Sl) (g : MG) (c : MO) (elt : ME) (m : Bool) : D → R (Option (Bool × D)) := fun d => noErr ((bindG g m d env).bind fun env' => (evC Γ env' c).bind fun t => if t then ((evE Γ env' elt).bind sto).bind (fun q => .ok (some q)) else .ok none)
@[simp] theorem e_lc (g : MG) (it : MI) (c : MO) (elt : ME) : evE Γ env (.lc g it c elt) = (evI Γ env it).bind fun p => (lcR (lcT Γ env g c elt p.1) p.2).bind fun q => if p.2.length ≤ sizeLine then .ok (.ow q.1 (.list q.2)) else .bad := by
  rw [evE]; simp [fits]; rfl
def rvlR (x : Rv) : R Rv := match x.d with
  | .list ds => .ok (.ow x.m (.list ds.reverse))
  | _ => .bad
@[simp] theorem rvlR_fr (m : Bool) (ds : List D) : rvlR (.fr m (.list ds)) = .ok (.ow m (.list ds.reverse)) := (rfl)
@[simp] theorem rvlR_ow (m : Bool) (ds : List D) : rvlR (.ow m (.list ds)) = .ok (.ow m (.list ds.reverse)) := (rfl)
@[simp] theorem rvlR_bo (m : Bool) (ds : List D) : rvlR (.bo m (.list ds)) = .ok (.ow m (.list ds.reverse)) := (rfl)
@[simp] theorem e_rvl (a : ME) : evE Γ env (.rvl a) = (evE Γ env a).bind rvlR := by rw [evE]; rfl
def repR (y z : Str) (x : Rv) : R Rv := match x.d with
  | .str t => if t.length + (t.length + 1) * z.length ≤ 16777216 then .ok (.fr false (.str (Txt.replace t y z))) else .bad
  | _ => .bad
@[simp] theorem e_rep (a : ME) (y z : Str) : evE Γ env (.rep a y z) = (evE Γ env a).bind (repR y z) := by rw [evE]; rfl
def srkR (g : List D → R Rv) (x : Rv) : R Rv := match x.d with
  | .list ds => (keysR g ds).bind fun ks => .ok (.ow x.m (.list ((srtK (ks.zip ds)).map (·.2))))
  | _ => .bad
@[simp] theorem srkR_fr (g : List D → R Rv) (m : Bool) (ds : List D) : srkR g (.fr m (.list ds)) = (keysR g ds).bind fun ks => .ok (.ow m (.list ((srtK (ks.zip ds)).map (·.2)))) := (rfl)
@[simp] theorem srkR_ow (g : List D → R Rv) (m : Bool) (ds : List D) : srkR g (.ow m (.list ds)) = (keysR g ds).bind fun ks => .ok (.ow m (.list ((srtK (ks.zip ds)).map (·.2)))) := (rfl)
@[simp] theorem srkR_bo (g : List D → R Rv) (m : Bool) (ds : List D) : srkR g (.bo m (.list ds)) = (keysR g ds).bind fun ks => .ok (.ow m (.list ((srtK (ks.zip ds)).map (·.2)))) := (rfl)
@[simp] theorem es_nil : evEs Γ env .nil = .ok [] := by rw [evEs]
@[simp] theorem es_cons (e : ME) (es : MEs) : evEs Γ env (.cons e es) = (evE Γ env e).bind fun x => (evEs Γ env es).bind fun xs => .ok (x :: xs) := by rw [evEs]
@[simp] theorem eb_one (con : Bool) (e : ME) : evB Γ env con (.cons e .nil) = (evE Γ env e).bind truth := by rw [evB]
def bopR (t con : Bool) (r : R Bool) : R Bool := if t = con then r else .ok t
@[simp] theorem bopR_tt (r : R Bool) : bopR true true r = r := (rfl)
@[simp] theorem bopR_ff (r : R Bool) : bopR false false r = r := (rfl)
@[simp] theorem bopR_tf (r : R Bool) : bopR true false r = .ok true := (rfl)
@[simp] theorem bopR_ft (r : R Bool) : bopR false true r = .ok false := (rfl)
@[simp] theorem bopR_and (t u : Bool) : bopR t true (.ok u) = .ok (t && u) := by cases t <;> rfl
@[simp] theorem bopR_or (t u : Bool) : bopR t false (.ok u) = .ok (t || u) := by cases t <;> rfl
@[simp] theorem eb_cons (con : Bool) (e e2 : ME) (es : MEs) : evB Γ env con (.cons e (.cons e2 es)) = ((evE Γ env e).bind truth).bind fun t => bopR t con (evB Γ env con (.cons e2 es)) := by
  rw [evB]
  · rfl
  · intro h; cases h
@[simp] theorem eo_no : evO Γ env .no = .ok none := by rw [evO]
def intR : D → R (Option Int)
  | .int i => .ok (some i)
  | _ => .bad
@[simp] theorem intR_int (i : Int) : intR (.int i) = .ok (some i) := (rfl)
@[simp] theorem eo_so (e : ME) : evO Γ env (.so e) = (evE Γ env e).bind fun x => intR x.d := by rw [evO]; rfl
@[simp] theorem ec_no : evC Γ env .no = .ok true := by rw [evC]
@[simp] theorem ec_so (e : ME) : evC Γ env (.so e) = (evE Γ env e).bind truth := by rw [evC]
-- iterables
def itmR (m : Bool) (o : Option (List D)) : R (Bool × List D) := match o with
  | some ds => .ok (m, ds)
  | none => .bad
@[simp] theorem itmR_some (m : Bool) (ds : List D) : itmR m (some ds) = .ok (m, ds) := (rfl)
@[simp] theorem ei_e (a : ME) : evI Γ env (.e a) = (evE Γ env a).bind fun x => if isBo x then .bad else itmR x.m (itemsOf x.d) := by
  rw [evI]
  rfl
def rg1 : D → R (Bool × List D)
  | .int n => if -(2 ^ 62) ≤ n ∧ n < 2 ^ 62 then .ok (false, rngD 0 n.toNat) else .bad
  | _ => .bad
theorem rg1_nat (n : Nat) (h : n < 2 ^ 62) : rg1 (.int n) = .ok (false, rngD 0 n) := by
  have e : (-(2 ^ 62) ≤ (n : Int) ∧ (n : Int) < 2 ^ 62) := by omega
  simp only [rg1, if_pos e, Int.toNat_natCast]
theorem rg1_int (n : Int) (h : 0 ≤ n ∧ n < 2 ^ 62) : rg1 (.int n) = .ok (false, rngD 0 n.toNat) := by
  have e : (-(2 ^ 62) ≤ n ∧ n < 2 ^ 62) := by omega
  simp only [rg1, if_pos e]
@[simp] theorem ei_r1 (a : ME) : evI Γ env (.r1 a) = (evE Γ env a).bind fun x => rg1 x.d := by
  rw [evI]
  congr 1
  funext x
  cases x.d <;> simp [rg1, sm]
def rg2 : D → D → R (Bool × List D)
  | .int i, .int j => if (-(2 ^ 62) ≤ i ∧ i < 2 ^ 62) ∧ (-(2 ^ 62) ≤ j ∧ j < 2 ^ 62) then .ok (false, rngD i (j - i).toNat) else .bad
  | _, _ => .bad
@[simp] theorem rg2_int (i j : Int) : rg2 (.int i) (.int j) = if (-(2 ^ 62) ≤ i ∧ i < 2 ^ 62) ∧ (-(2 ^ 62) ≤ j ∧ j < 2 ^ 62) then .ok (false, rngD i (j - i).toNat) else .bad := (rfl)
@[simp] theorem ei_r2 (a b : ME) : evI Γ env (.r2 a b) = (evE Γ env a).bind fun x => (evE Γ env b).bind fun y => rg2 x.d y.d := by
  rw [evI]
  congr 1
  funext x
  congr 1
  funext y
  cases x.d <;> cases y.d <;> simp [rg2, sm]
def zipR (x y : Rv) : R (Bool × List D) := if isBo x || isBo y then .bad else match itemsOf x.d, itemsOf y.d with
    | some ds, some es => .ok (x.m || y.m, List.zipWith (fun d e => .tuple [d, e]) ds es)
    | _, _ => .bad
theorem zipR_ok {x y : Rv} {ds es : List D} (h1 : isBo x = false) (h2 : isBo y = false) (e1 : itemsOf x.d = some ds) (e2 : itemsOf y.d = some es) : zipR x y = .ok (x.m || y.m, List.zipWith (fun d e => .tuple [d, e]) ds es) := by
  unfold zipR
  rw [h1, h2, e1, e2]
  rfl
@[simp] theorem ei_zip (a b : ME) : evI Γ env (.zip a b) = (evE Γ env a).bind fun x => (evE Γ env b).bind fun y => zipR x y := by rw [evI]; rfl
def enumR (x : Rv) : R (Bool × List D) := if isBo x then .bad else match x.d with
    | .list ds => .ok (x.m, enumD 0 ds)
    | .str z => .ok (x.m, enumD 0 (z.cps.toList.map fun c => .str ⟨#[c]⟩))
    | _ => .bad
@[simp] theorem enumR_fr (m : Bool) (ds : List D) : enumR (.fr m (.list ds)) = .ok (m, enumD 0 ds) := (rfl)
@[simp] theorem enumR_ow (m : Bool) (ds : List D) : enumR (.ow m (.list ds)) = .ok (m, enumD 0 ds) := (rfl)
@[simp] theorem enumR_str (m : Bool) (z : Str) : enumR (.fr m (.str z)) = .ok (m, enumD 0 (z.cps.toList.map fun c => .str ⟨#[c]⟩)) := (rfl)
@[simp] theorem ei_enum (a : ME) : evI Γ env (.enum a) = (evE Γ env a).bind fun x => enumR x := by rw [evI]; rfl
def revR (x : Rv) : R (Bool × List D) := if isBo x then .bad else match x.d with
    | .list ds => .ok (x.m, ds.reverse)
    | _ => .bad
@[simp] theorem revR_fr (m : Bool) (ds : List D) : revR (.fr m (.list ds)) = .ok (m, ds.reverse) := (rfl)
@[simp] theorem revR_ow (m : Bool) (ds : List D) : revR (.ow m (.list ds)) = .ok (m, ds.reverse) := (rfl)
@[simp] theorem ei_rev (a : ME) : evI Γ env (.rev a) = (evE Γ env a).bind fun x => revR x := by rw [evI]; rfl
end
/-! values -/
@[simp] theorem rd_fr (m : Bool) (d : D) : Rv.d (.fr m d) = d := (rfl)
@[simp] theorem rd_ow (m : Bool) (d : D) : Rv.d (.ow m d) = d := (rfl)
@[simp] theorem rd_bo (m : Bool) (d : D) : Rv.d (.bo m d) = d := (rfl)
@[simp] theorem rm_fr (m : Bool) (d : D) : Rv.m (.fr m d) = m := (rfl)
@[simp] theorem rm_ow (m : Bool) (d : D) : Rv.m (.ow m d) = m := (rfl)
@[simp] theorem rm_bo (m : Bool) (d : D) : Rv.m (.bo m d) = m := (rfl)
@[simp] theorem bo_fr (m : Bool) (d : D) : isBo (.fr m d) = false := (rfl)
@[simp] theorem bo_ow (m : Bool) (d : D) : isBo (.ow m d) = false := (rfl)
@[simp] theorem bo_bo (m : Bool) (d : D) : isBo (.bo m d) = true := (rfl)
@[simp] theorem lift_some (m nw : Bool) (d : D) : lift m (some (nw, d)) = .ok (mk m nw d) := (rfl)
@[simp] theorem liftB_some (b : Bool) : liftB (some b) = .ok (.fr false (.bool b)) := (rfl)
@[simp] theorem mk_new (m : Bool) (d : D) : mk m true d = .ow m d := (rfl)
@[simp] theorem mk_int (m : Bool) (d : Int) : mk m false (.int d) = .fr false (.int d) := by cases m <;> rfl
@[simp] theorem mk_str (m : Bool) (d : Str) : mk m false (.str d) = .fr false (.str d) := by cases m <;> rfl
@[simp] theorem mk_bool (m : Bool) (d : Bool) : mk m false (.bool d) = .fr false (.bool d) := by cases m <;> rfl
@[simp] theorem mk_none (m : Bool) : mk m false .none = .fr false .none := by cases m <;> rfl
@[simp] theorem mk_list (m : Bool) (d : List D) : mk m false (.list d) = .fr m (.list d) := by cases m <;> rfl
@[simp] theorem mk_tup (m : Bool) (d : List D) : mk m false (.tuple d) = .fr m (.tuple d) := by cases m <;> rfl
@[simp] theorem mk_f (d : D) : mk false false d = .fr false d := (rfl)
@[simp] theorem imm_int (i : Int) : imm (.int i) = true := by simp [imm]
@[simp] theorem imm_str (i : Str) : imm (.str i) = true := by simp [imm]
@[simp] theorem imm_bool (i : Bool) : imm (.bool i) = true := by simp [imm]
@[simp] theorem imm_none : imm .none = true := by simp [imm]
@[simp] theorem imm_list (l : List D) : imm (.list l) = false := by rw [imm]
@[simp] theorem imm_tup (l : List D) : imm (.tuple l) = imms l := by rw [imm]
@[simp] theorem imms_nil : imms [] = true := by rw [imms]
@[simp] theorem imms_cons (d : D) (l : List D) : imms (d :: l) = (imm d && imms l) := by rw [imms]
@[simp] theorem sto_fr (m : Bool) (d : D) : sto (.fr m d) = .ok (m && !imm d, d) := (rfl)
@[simp] theorem sto_ow (m : Bool) (d : D) : sto (.ow m d) = .ok (m && !imm d, d) := (rfl)
@[simp] theorem stos_nil : stos [] = .ok (false, []) := (rfl)
@[simp] theorem stos_cons (r : Rv) (rs : List Rv) : stos (r :: rs) = (sto r).bind fun p => (stos rs).bind fun q => .ok (p.1 || q.1, p.2 :: q.2) := (rfl)
@[simp] theorem anyM_nil : anyM [] = false := (rfl)
@[simp] theorem anyM_cons (r : Rv) (rs : List Rv) : anyM (r :: rs) = (r.m || anyM rs) := (rfl)
@[simp] theorem truth_b (m b : Bool) : truth (.fr m (.bool b)) = .ok b := (rfl)
@[simp] theorem ans_int (l m : Bool) (d : Int) : ans l (.fr m (.int d)) = .ok (.fr false (.int d)) := by cases l <;> cases m <;> rfl
@[simp] theorem ans_str (l m : Bool) (d : Str) : ans l (.fr m (.str d)) = .ok (.fr false (.str d)) := by cases l <;> cases m <;> rfl
@[simp] theorem ans_bool (l m : Bool) (d : Bool) : ans l (.fr m (.bool d)) = .ok (.fr false (.bool d)) := by cases l <;> cases m <;> rfl
@[simp] theorem ans_none (l m : Bool) : ans l (.fr m .none) = .ok (.fr false .none) := by cases l <;> cases m <;> rfl
@[simp] theorem ans_fr (l : Bool) (d : D) : ans l (.fr false d) = .ok (.fr false d) := by cases l <;> rfl
@[simp] theorem ans_nl (m : Bool) (d : D) : ans false (.fr m d) = .ok (.fr (m && !imm d) d) := (rfl)
@[simp] theorem ans_ow (l : Bool) (d : List D) : ans l (.ow false (.list d)) = .ok (.ow false (.list d)) := by cases l <;> rfl
@[simp] theorem ans_own (m : Bool) (d : List D) : ans false (.ow m (.list d)) = .ok (.ow (m && !imms d) (.list d)) := (rfl)
@[simp] theorem noErr_ok' {α : Type} (a : α) : noErr (.ok a) = .ok a := (rfl)
end En

set_option Elab.async false
set_option linter.all false
set_option maxRecDepth 100000
set_option maxHeartbeats 4000000
namespace En
open PySem PySem.Spec PyProof.Rows L2

/-! ### texts as lists of signs -/
abbrev Tx := List Nat
def tx (l : Tx) : D := .str ⟨l.toArray⟩
theorem tx_inj {a b : Tx} : tx a = tx b ↔ a = b := by
  unfold tx
  constructor
  · intro h
    injection h with h
    injection h with h
    simpa using h
  · intro h; rw [h]
@[simp] theorem imm_tx (l : Tx) : imm (tx l) = true := imm_str _
@[simp] theorem mk_tx (m : Bool) (l : Tx) : mk m false (tx l) = .fr false (tx l) := mk_str _ _
@[simp] theorem ans_tx (b m : Bool) (l : Tx) : ans b (.fr m (tx l)) = .ok (.fr false (tx l)) := ans_str _ _ _
@[simp] theorem isStr_tx (l : Tx) : isStr (tx l) = some ⟨l.toArray⟩ := (rfl)
@[simp] theorem items_tx (l : Tx) : itemsOf (tx l) = some (l.map fun c => tx [c]) := by
  show some ((l.toArray).toList.map _) = _
  simp [tx]
@[simp] theorem items_list (l : List D) : itemsOf (.list l) = some l := (rfl)
@[simp] theorem items_tup (l : List D) : itemsOf (.tuple l) = some l := (rfl)
@[simp] theorem enumR_tx (m : Bool) (l : Tx) : enumR (.fr m (tx l)) = .ok (m, enumD 0 (l.map fun c => tx [c])) := by
  show enumR (.fr m (.str ⟨l.toArray⟩)) = _
  rw [enumR_str]
  simp [tx]
-- operators
@[simp] theorem add_int (i j : Int) : semBin .Add (.int i) (.int j) = some (false, .int (i + j)) := (rfl)
@[simp] theorem sub_int (i j : Int) : semBin .Sub (.int i) (.int j) = some (false, .int (i - j)) := (rfl)
theorem mul_int {i j : Int} (h : (-(2 ^ 64) < i ∧ i < 2 ^ 64) ∨ (-(2 ^ 64) < j ∧ j < 2 ^ 64)) : semBin .Mult (.int i) (.int j) = some (false, .int (i * j)) := by
  simp only [semBin, Bool.or_eq_true, Bool.and_eq_true, decide_eq_true_eq]
  rw [if_pos h]
theorem div_int {i j : Int} (h : 0 < j ∧ j < 1073741824) : semBin .FloorDiv (.int i) (.int j) = some (false, .int (i / j)) := by
  simp only [semBin, Bool.and_eq_true, decide_eq_true_eq]
  rw [if_pos h]
theorem mod_int {i j : Int} (h : 0 < j) : semBin .Mod (.int i) (.int j) = some (false, .int (i % j)) := by
  simp only [semBin, decide_eq_true_eq]
  rw [if_pos h]
theorem add_tx {a b : Tx} (h : a.length + b.length ≤ sizeLine) : semBin .Add (tx a) (tx b) = some (false, tx (a ++ b)) := by
  have e : fits ((⟨a.toArray⟩ : Str).length + (⟨b.toArray⟩ : Str).length) = true := decide_eq_true (by simpa [Str.length] using h)
  show (if fits ((⟨a.toArray⟩ : Str).length + (⟨b.toArray⟩ : Str).length) = true then some (false, PyData.str ((⟨a.toArray⟩ : Str) ++ (⟨b.toArray⟩ : Str))) else none) = _
  rw [if_pos e]
  congr 2
  show PyData.str ⟨a.toArray ++ b.toArray⟩ = .str ⟨(a ++ b).toArray⟩
  simp
theorem add_list {a b : List D} (h : a.length + b.length ≤ sizeLine) : semBin .Add (.list a) (.list b) = some (true, .list (a ++ b)) := by
  have e : fits (a.length + b.length) = true := decide_eq_true h
  show (if fits (a.length + b.length) = true then _ else _) = _
  rw [if_pos e]
theorem mul_tx {a : Tx} {n : Nat} (h : a.length * n ≤ sizeLine) (hn : n < 2 ^ 63) : semBin .Mult (tx a) (.int n) = some (false, tx (List.replicate n a).flatten) := by
  have e : (decide (-(2 ^ 63) ≤ (n : Int)) && decide ((n : Int) < 2 ^ 63) && fits ((⟨a.toArray⟩ : Str).length * (n : Int).toNat)) = true := by
    simp only [Bool.and_eq_true, decide_eq_true_eq, fits]
    refine ⟨⟨by omega, by omega⟩, ?_⟩
    simpa [Str.length] using h
  simp only [semBin, tx]
  rw [if_pos e]
  simp
@[simp] theorem lt_int (i j : Int) : semCmp .Lt (.int i) (.int j) = some (decide (i < j)) := (rfl)
@[simp] theorem le_int (i j : Int) : semCmp .LtE (.int i) (.int j) = some (decide (i ≤ j)) := (rfl)
@[simp] theorem gt_int (i j : Int) : semCmp .Gt (.int i) (.int j) = some (decide (j < i)) := (rfl)
@[simp] theorem ge_int (i j : Int) : semCmp .GtE (.int i) (.int j) = some (decide (j ≤ i)) := (rfl)
@[simp] theorem cmp_eq (a b : D) : semCmp .Eq a b = eqO a b := (rfl)
@[simp] theorem cmp_ne (a b : D) : semCmp .NotEq a b = (eqO a b).map (!·) := (rfl)
@[simp] theorem cmp_in (a b : D) : semCmp .In a b = inO a b := (rfl)
@[simp] theorem cmp_nin (a b : D) : semCmp .NotIn a b = (inO a b).map (!·) := (rfl)
@[simp] theorem cmp_is (a b : D) : semCmp .Is a b = isO a b := (rfl)
@[simp] theorem cmp_isn (a b : D) : semCmp .IsNot a b = (isO a b).map (!·) := (rfl)
@[simp] theorem eq_int (i j : Int) : eqO (.int i) (.int j) = some (decide (i = j)) := by
  show some (decide (V.int i = V.int j)) = _
  congr 1
  simp
@[simp] theorem eq_bool (i j : Bool) : eqO (.bool i) (.bool j) = some (decide (i = j)) := by
  show some (decide (V.bl i = V.bl j)) = _
  congr 1
  simp
@[simp] theorem eq_str (i j : Str) : eqO (.str i) (.str j) = some (decide (i = j)) := by
  show some (decide (V.str i = V.str j)) = _
  congr 1
  simp
@[simp] theorem eq_tx (a b : Tx) : eqO (tx a) (tx b) = some (decide (a = b)) := by
  unfold tx
  rw [eq_str]
  congr 1
  simp
@[simp] theorem is_true (b : Bool) : isO (.bool b) (.bool true) = some b := by cases b <;> rfl
@[simp] theorem is_false (b : Bool) : isO (.bool b) (.bool false) = some (!b) := by cases b <;> rfl
theorem isi_bool (d : D) : semIsi d "bool" = some (match d with | .bool _ => true | _ => false) := by
  unfold semIsi
  rw [if_neg (by decide), if_pos rfl]
  all_goals (cases d <;> rfl)
@[simp] theorem isi_bool_b (b : Bool) : semIsi (.bool b) "bool" = some true := isi_bool _
@[simp] theorem isi_str_tx (b : Tx) : semIsi (tx b) "str" = some true := by simp [semIsi, tx]
-- builtins
@[simp] theorem bi_len' (ds : List D) : semBi "len" ds = s_len ds := by simp [semBi]
@[simp] theorem bi_int' (ds : List D) : semBi "int" ds = s_int ds := by
  unfold semBi
  rw [if_neg (by decide), if_neg (by decide), if_neg (by decide), if_neg (by decide), if_neg (by decide), if_neg (by decide), if_pos rfl]
@[simp] theorem len_list (l : List D) : s_len [.list l] = some (false, .int l.length) := (rfl)
@[simp] theorem len_tup (l : List D) : s_len [.tuple l] = some (false, .int l.length) := (rfl)
theorem len_tx {l : Tx} (h : l.length ≤ sizeLine) : s_len [tx l] = some (false, .int l.length) := by
  have e : fits (⟨l.toArray⟩ : Str).length = true := decide_eq_true (by simpa [Str.length] using h)
  show (if fits (⟨l.toArray⟩ : Str).length = true then some (false, PyData.int ((⟨l.toArray⟩ : Str).length)) else none) = _
  rw [if_pos e]
  simp [Str.length]
theorem ix_list {l : List D} {i : Nat} {d : D} (h : l[i]? = some d) : semIx (.list l) (.int i) = some d := atI_nat h
theorem ix_tup {l : List D} {i : Nat} {d : D} (h : l[i]? = some d) : semIx (.tuple l) (.int i) = some d := atI_nat h
theorem ix_tx {l : Tx} {i : Nat} {c : Nat} (hl : l.length ≤ sizeLine) (h : l[i]? = some c) : semIx (tx l) (.int i) = some (tx [c]) := by
  have e : fits (⟨l.toArray⟩ : Str).length = true := decide_eq_true (by simpa [Str.length] using hl)
  show (if fits (⟨l.toArray⟩ : Str).length = true then (atI (⟨l.toArray⟩ : Str).cps.toList (i : Int)).map (fun c => PyData.str ⟨#[c]⟩) else none) = _
  rw [if_pos e]
  rw [atI_nat (v := c) (by simpa using h)]
  rfl
theorem sl_tx {l : Tx} (hl : l.length ≤ sizeLine) (a b : Option Int) : semSl (tx l) a b = some (false, tx (cutL l a b)) := by
  have e : fits (⟨l.toArray⟩ : Str).length = true := decide_eq_true (by simpa [Str.length] using hl)
  show (if fits (⟨l.toArray⟩ : Str).length = true then some (false, PyData.str ⟨(cutL (⟨l.toArray⟩ : Str).cps.toList a b).toArray⟩) else none) = _
  rw [if_pos e]
  simp [tx]
@[simp] theorem sl_list (l : List D) (a b : Option Int) : semSl (.list l) a b = some (true, .list (cutL l a b)) := (rfl)
@[simp] theorem sl_tup (l : List D) (a b : Option Int) : semSl (.tuple l) a b = some (false, .tuple (cutL l a b)) := (rfl)
theorem cut_to {α : Type} {l : List α} {k : Nat} : cutL l none (some (k : Int)) = l.take k := by
  unfold cutL
  rw [HT.sIx_none, HT.sIx_nat]
  simp [List.take_eq_take_iff]
theorem cut_from {α : Type} {l : List α} {k : Nat} : cutL l (some (k : Int)) none = l.drop k := by
  unfold cutL
  rw [HT.sIx_none, HT.sIx_nat]
  by_cases h : k ≤ l.length
  · rw [Nat.min_eq_left h, List.take_of_length_le (by rw [List.length_drop]; omega)]
  · rw [Nat.min_eq_right (by omega), List.drop_eq_nil_of_le (as := l) (i := k) (by omega)]
    simp
/-- join of single texts -/
theorem allO_tx : ∀ ts : List Tx, allO isStr (ts.map tx) = some (ts.map fun t => (⟨t.toArray⟩ : Str))
  | [] => rfl
  | t :: ts => by
    rw [List.map_cons, allO, allO_tx ts]
    rfl
theorem joinL_nil : ∀ ts : List (List Nat), TL.joinL [] ts = ts.flatten
  | [] => rfl
  | [t] => by simp [TL.joinL]
  | t :: u :: ts => by
    have := joinL_nil (u :: ts)
    simp [TL.joinL] at this ⊢
    exact this
theorem join_tx {ts : List Tx} (h : (ts.map List.length).sum ≤ sizeLine) : semMt (tx []) "join" [.list (ts.map tx)] = some (false, tx ts.flatten) := by
  have e0 : semMt (tx []) "join" [.list (ts.map tx)] = m_join (tx []) [.list (ts.map tx)] := by simp [semMt]
  rw [e0]
  show ((allO isStr (ts.map tx)).bind fun ys => if fits ((ys.map (·.length)).sum + ys.length * (⟨#[]⟩ : Str).length) = true then some (false, PyData.str ⟨(TL.joinL (⟨#[]⟩ : Str).cps.toList (ys.map TL.tl)).toArray⟩) else none) = _
  rw [allO_tx]
  simp only [Option.bind_some]
  have e2 : ((ts.map fun t => (⟨t.toArray⟩ : Str)).map (·.length)) = ts.map List.length := by
    rw [List.map_map]
    apply List.map_congr_left
    intro t _
    simp [Str.length]
  have e4 : fits ((ts.map List.length).sum + (ts.map fun t => (⟨t.toArray⟩ : Str)).length * (⟨#[]⟩ : Str).length) = true := decide_eq_true (by simpa [Str.length] using h)
  rw [e2, if_pos e4]
  have e3 : (ts.map fun t => (⟨t.toArray⟩ : Str)).map TL.tl = ts := by
    rw [List.map_map]
    conv => rhs; rw [← List.map_id ts]
    apply List.map_congr_left
    intro t _
    simp [TL.tl]
  rw [e3]
  show some (false, PyData.str ⟨(TL.joinL [] ts).toArray⟩) = _
  rw [joinL_nil]
  rfl
/-! ### loops -/
end En

set_option Elab.async false
set_option linter.all false
set_option maxRecDepth 100000
set_option maxHeartbeats 4000000
namespace En
open PySem PySem.Spec PyProof.Rows L2

/-! ### what is to hold behind a run -/
inductive RS {α : Type} (X : Str → Prop) : R α → (α → Prop) → Prop
  | ok {a : α} {Q : α → Prop} : Q a → RS X (.ok a) Q
  | err {x : Str} {Q : α → Prop} : X x → RS X (.err x) Q
inductive FS (X : Str → Prop) (B C : List Sl → Prop) (Q : Rv → Prop) : Fl → (List Sl → Prop) → Prop
  | next {e : List Sl} {N : List Sl → Prop} : N e → FS X B C Q (.next e) N
  | ret {r : Rv} {N : List Sl → Prop} : Q r → FS X B C Q (.ret r) N
  | brk {e : List Sl} {N : List Sl → Prop} : B e → FS X B C Q (.brk e) N
  | cnt {e : List Sl} {N : List Sl → Prop} : C e → FS X B C Q (.cnt e) N
  | err {x : Str} {N : List Sl → Prop} : X x → FS X B C Q (.err x) N
section
variable {α β : Type} {X : Str → Prop} {B C : List Sl → Prop} {Q : Rv → Prop} {N : List Sl → Prop}
@[simp] theorem rs_ok (a : α) (K : α → Prop) : RS X (.ok a) K = K a := propext ⟨fun h => by cases h; assumption, .ok⟩
@[simp] theorem rs_err (x : Str) (K : α → Prop) : RS X (.err x) K = X x := propext ⟨fun h => by cases h; assumption, .err⟩
@[simp] theorem rs_bad (K : α → Prop) : RS X (.bad : R α) K = False := propext ⟨fun h => (nomatch h), fun h => h.elim⟩
@[simp] theorem rs_bind (r : R α) (f : α → R β) (K : β → Prop) : RS X (r.bind f) K = RS X r fun a => RS X (f a) K := by
  cases r with
  | ok a => rw [rs_ok]; rfl
  | err x => rw [rs_err]; exact rs_err _ _
  | bad => rw [rs_bad]; exact rs_bad _
@[simp] theorem rs_ite (c : Prop) [Decidable c] (a b : R α) (K : α → Prop) : RS X (if c then a else b) K = if c then RS X a K else RS X b K := by split <;> rfl
@[simp] theorem rs_itR (t : Bool) (a b : R Rv) (K : Rv → Prop) : RS X (itR t a b) K = ((t = true → RS X a K) ∧ (t = false → RS X b K)) := by cases t <;> simp
@[simp] theorem rs_bopA (t : Bool) (r : R Bool) (K : Bool → Prop) : RS X (bopR t true r) K = ((t = true → RS X r K) ∧ (t = false → K false)) := by cases t <;> simp
@[simp] theorem rs_bopO (t : Bool) (r : R Bool) (K : Bool → Prop) : RS X (bopR t false r) K = ((t = false → RS X r K) ∧ (t = true → K true)) := by cases t <;> simp
theorem rs_imp {r : R α} {K K' : α → Prop} (h : RS X r K) (i : ∀ a, K a → K' a) : RS X r K' := by
  cases h with
  | ok h => exact .ok (i _ h)
  | err h => exact .err h
theorem rs_eq {r : R α} {K : α → Prop} (h : RS (fun _ => False) r K) : ∃ a, r = .ok a ∧ K a := by
  cases h with
  | ok h => exact ⟨_, rfl, h⟩
  | err h => exact h.elim
theorem rs_x {X' : Str → Prop} {r : R α} {K : α → Prop} (h : RS X r K) (i : ∀ x, X x → X' x) : RS X' r K := by
  cases h with
  | ok h => exact .ok h
  | err h => exact .err (i _ h)
@[simp] theorem fs_next (e : List Sl) : FS X B C Q (.next e) N = N e := propext ⟨fun h => by cases h; assumption, .next⟩
@[simp] theorem fs_ret (e : Rv) : FS X B C Q (.ret e) N = Q e := propext ⟨fun h => by cases h; assumption, .ret⟩
@[simp] theorem fs_brk (e : List Sl) : FS X B C Q (.brk e) N = B e := propext ⟨fun h => by cases h; assumption, .brk⟩
@[simp] theorem fs_cnt (e : List Sl) : FS X B C Q (.cnt e) N = C e := propext ⟨fun h => by cases h; assumption, .cnt⟩
@[simp] theorem fs_err (e : Str) : FS X B C Q (.err e) N = X e := propext ⟨fun h => by cases h; assumption, .err⟩
@[simp] theorem fs_bad : FS X B C Q .bad N = False := propext ⟨fun h => (nomatch h), fun h => h.elim⟩
@[simp] theorem fs_then (a : Fl) (f : List Sl → Fl) : FS X B C Q (a.then f) N = FS X B C Q a fun e => FS X B C Q (f e) N := by cases a <;> simp [Fl.then]
@[simp] theorem fs_of (r : R α) (f : α → Fl) : FS X B C Q (Fl.of r f) N = RS X r fun a => FS X B C Q (f a) N := by cases r <;> simp [Fl.of]
@[simp] theorem fs_if (t : Bool) (a b : Fl) : FS X B C Q (ifR t a b) N = ((t = true → FS X B C Q a N) ∧ (t = false → FS X B C Q b N)) := by cases t <;> simp
@[simp] theorem fs_ite (c : Prop) [Decidable c] (a b : Fl) : FS X B C Q (if c then a else b) N = if c then FS X B C Q a N else FS X B C Q b N := by split <;> rfl
theorem fs_imp {f : Fl} {N' : List Sl → Prop} (h : FS X B C Q f N) (i : ∀ e, N e → N' e) : FS X B C Q f N' := by
  cases h with
  | next h => exact .next (i _ h)
  | ret h => exact .ret h
  | brk h => exact .brk h
  | cnt h => exact .cnt h
  | err h => exact .err h
theorem fs_for {f : D → List Sl → Fl} (I : Nat → List Sl → Prop) : ∀ {ds : List D} {env : List Sl}, I 0 env → (∀ i d e, ds[i]? = some d → I i e → FS X N (I (i + 1)) Q (f d e) (I (i + 1))) → (∀ e, I ds.length e → N e) → FS X B C Q (forR f ds env) N := by
  intro ds
  induction ds generalizing I with
  | nil => exact fun h _ n => .next (n _ h)
  | cons d ds ih =>
    intro env h hs n
    have h1 := hs 0 d env rfl h
    have eq : forR f (d :: ds) env = (match f d env with | .next e => forR f ds e | .cnt e => forR f ds e | .brk e => .next e | a => a) := rfl
    rw [eq]
    have nx : ∀ e, I 1 e → FS X B C Q (forR f ds e) N := fun e he => ih (fun i => I (i + 1)) he (fun i d e hd => hs (i + 1) d e (by simpa using hd)) n
    cases e1 : f d env with
    | next e => rw [e1, fs_next] at h1; exact nx e h1
    | cnt e => rw [e1, fs_cnt] at h1; exact nx e h1
    | brk e => rw [e1, fs_brk] at h1; exact .next h1
    | ret r => rw [e1, fs_ret] at h1; exact .ret h1
    | err x => rw [e1, fs_err] at h1; exact .err h1
    | bad => rw [e1, fs_bad] at h1; exact h1.elim
theorem fs_whl {c : List Sl → R Bool} {f : List Sl → Fl} (I : Nat → List Sl → Prop) : ∀ {n : Nat} {m : Nat} {env : List Sl}, I m env → m < n →
    (∀ m e, I m e → RS X (c e) fun t => (t = true → FS X N (fun e' => ∃ k, k < m ∧ I k e') Q (f e) (fun e' => ∃ k, k < m ∧ I k e')) ∧ (t = false → N e)) → FS X B C Q (whlR c f n env) N := by
  intro n
  induction n with
  | zero => exact fun _ h => absurd h (Nat.not_lt_zero _)
  | succ n ih =>
    intro m env h hm hs
    have h1 := hs m env h
    show FS X B C Q (.of (c env) fun t => if t then match f env with
      | .next e => whlR c f n e
      | .cnt e => whlR c f n e
      | .brk e => .next e
      | a => a else .next env) N
    rw [fs_of]
    refine rs_imp h1 fun t ⟨ht, hf⟩ => ?_
    cases t with
    | false => exact .next (hf rfl)
    | true =>
      have h2 := ht rfl
      rw [if_pos rfl]
      have nx : ∀ e, (∃ k, k < m ∧ I k e) → FS X B C Q (whlR c f n e) N := fun e ⟨k, hk, hi⟩ => ih hi (by omega) hs
      cases e1 : f env with
      | next e => rw [e1, fs_next] at h2; exact nx e h2
      | cnt e => rw [e1, fs_cnt] at h2; exact nx e h2
      | brk e => rw [e1, fs_brk] at h2; exact .next h2
      | ret r => rw [e1, fs_ret] at h2; exact .ret h2
      | err x => rw [e1, fs_err] at h2; exact .err h2
      | bad => rw [e1, fs_bad] at h2; exact h2.elim
/-- a def's run -/
theorem rs_run {Γ : FT} {fuel : Nat} {f : MF} {ds : List D} {K : Rv → Prop} (h : FS X (fun _ => False) (fun _ => False) K (evSs Γ fuel f.body (startE f.slots ds)) fun _ => K (.fr false .none)) : RS X (runF Γ fuel f ds) K := by
  unfold runF
  cases e : evSs Γ fuel f.body (startE f.slots ds) with
  | bad => rw [e, fs_bad] at h; exact h.elim
  | err x => rw [e, fs_err] at h; exact .err h
  | next x => rw [e, fs_next] at h; exact .ok h
  | ret x => rw [e, fs_ret] at h; exact .ok h
  | brk x => rw [e, fs_brk] at h; exact h.elim
  | cnt x => rw [e, fs_cnt] at h; exact h.elim
/-- over a comprehension's items -/
theorem rs_lc {f : D → R (Option (Bool × D))} (I : Nat → Bool → List D → Prop) : ∀ {ds : List D} {K : Bool × List D → Prop}, I 0 false [] → (∀ i d m l, ds[i]? = some d → I i m l → RS X (f d) fun o => match o with
    | some p => I (i + 1) (m || p.1) (l ++ [p.2])
    | none => I (i + 1) m l) → (∀ m l, I ds.length m l → K (m, l)) → RS X (lcR f ds) K := by
  have gen : ∀ (ds : List D) (I : Nat → Bool → List D → Prop) (m0 : Bool) (l0 : List D) (K : Bool × List D → Prop), I 0 m0 l0 → (∀ i d m l, ds[i]? = some d → I i m l → RS X (f d) fun o => match o with
      | some p => I (i + 1) (m || p.1) (l ++ [p.2])
      | none => I (i + 1) m l) → (∀ m l, I ds.length m l → K (m, l)) → RS X (lcR f ds) fun q => K (m0 || q.1, l0 ++ q.2) := by
    intro ds
    induction ds with
    | nil => intro I m0 l0 K h _ n; simpa [lcR] using n _ _ h
    | cons d ds ih =>
      intro I m0 l0 K h hs n
      have h1 := hs 0 d m0 l0 rfl h
      show RS X ((f d).bind fun o => (lcR f ds).bind fun q => match o with | some p => .ok (p.1 || q.1, p.2 :: q.2) | none => .ok q) _
      rw [rs_bind]
      refine rs_imp h1 fun o ho => ?_
      rw [rs_bind]
      cases o with
      | none =>
        refine rs_imp (ih (fun i => I (i + 1)) m0 l0 K ho (fun i d m l hd => hs (i + 1) d m l (by simpa using hd)) n) fun q hq => .ok hq
      | some p =>
        refine rs_imp (ih (fun i => I (i + 1)) _ _ K ho (fun i d m l hd => hs (i + 1) d m l (by simpa using hd)) n) fun q hq => ?_
        refine .ok ?_
        show K (m0 || (p.1 || q.1), l0 ++ p.2 :: q.2)
        rw [← Bool.or_assoc, show l0 ++ p.2 :: q.2 = (l0 ++ [p.2]) ++ q.2 by simp]
        exact hq
  intro ds K h hs n
  have := gen ds I false [] K h hs n
  simpa using this
end
end En

set_option Elab.async false
set_option linter.all false
set_option maxRecDepth 100000
set_option maxHeartbeats 4000000
namespace En
open PySem PySem.Spec PyProof.Rows L2

/-! ### written texts -/
theorem mul_l {i j : Int} (h : -1000000000 < i ∧ i < 1000000000) : semBin .Mult (.int i) (.int j) = some (false, .int (i * j)) := mul_int (.inl (by omega))
theorem mul_r {i j : Int} (h : -1000000000 < j ∧ j < 1000000000) : semBin .Mult (.int i) (.int j) = some (false, .int (i * j)) := mul_int (.inr (by omega))
theorem rg1_le (n : Int) (h : 0 ≤ n) (h2 : n ≤ 1000000000) : rg1 (.int n) = .ok (false, rngD 0 n.toNat) := rg1_int n (by omega)
@[simp] theorem lit_dash : (PyData.str (Str.ofString "-") : D) = tx [45] := (rfl)
@[simp] theorem lit_0 : (PyData.str (Str.ofString "0") : D) = tx [48] := (rfl)
@[simp] theorem lit_1 : (PyData.str (Str.ofString "1") : D) = tx [49] := (rfl)
@[simp] theorem lit_e : (PyData.str (Str.ofString "") : D) = tx [] := (rfl)
@[simp] theorem lit_01 : (PyData.str (Str.ofString "01") : D) = tx [48, 49] := (rfl)
@[simp] theorem lit_10 : (PyData.str (Str.ofString "10") : D) = tx [49, 48] := (rfl)
@[simp] theorem lit_01d : (PyData.str (Str.ofString "01-") : D) = tx [48, 49, 45] := (rfl)
@[simp] theorem int_0 : s_int [tx [48]] = some (false, .int 0) := (rfl)
@[simp] theorem int_1 : s_int [tx [49]] = some (false, .int 1) := (rfl)
/-- a sign of rows; of letters -/
def Sg (c : Nat) : Prop := c = 48 ∨ c = 49 ∨ c = 45
def Bt (c : Nat) : Prop := c = 48 ∨ c = 49
theorem Bt.sg {c : Nat} (h : Bt c) : Sg c := h.elim .inl fun h => .inr (.inl h)
def Row (w : Nat) (l : Tx) : Prop := l.length = w ∧ ∀ c ∈ l, Sg c
def Ltr (w : Nat) (l : Tx) : Prop := l.length = w ∧ ∀ c ∈ l, Bt c
theorem Ltr.row {w : Nat} {l : Tx} (h : Ltr w l) : Row w l := ⟨h.1, fun c hc => (h.2 c hc).sg⟩
theorem ix_01 (i : Int) (h0 : 0 ≤ i) (h1 : i < 2) : ∃ c, Bt c ∧ semIx (tx [48, 49]) (.int i) = some (tx [c]) := by
  obtain ⟨n, rfl⟩ := Int.eq_ofNat_of_zero_le h0
  have : n = 0 ∨ n = 1 := by omega
  rcases this with rfl | rfl
  · exact ⟨48, .inl rfl, ix_tx (sz _ (by decide)) rfl⟩
  · exact ⟨49, .inr rfl, ix_tx (sz _ (by decide)) rfl⟩
theorem rngD_at {a : Int} {n i : Nat} {d : D} (h : (rngD a n)[i]? = some d) : i < n ∧ d = .int (a + (i : Int)) := by
  unfold rngD at h
  rw [List.getElem?_map] at h
  by_cases hi : i < n
  · rw [List.getElem?_range hi] at h
    cases h
    exact ⟨hi, rfl⟩
  · rw [List.getElem?_eq_none (by simpa using hi)] at h
    cases h
theorem map_at {α : Type} {f : α → D} {l : List α} {i : Nat} {d : D} (h : (l.map f)[i]? = some d) : ∃ hi : i < l.length, d = f l[i] := by
  rw [List.getElem?_map] at h
  by_cases hi : i < l.length
  · rw [List.getElem?_eq_getElem hi] at h
    cases h
    exact ⟨hi, rfl⟩
  · rw [List.getElem?_eq_none (by omega)] at h
    cases h
namespace M
/-! ### the laws' own helpers -/
def cell : MF := ⟨2, (.cons (.ife (.cmp .Lt (.v 1) (.bi "len" (.cons (.v 0) .nil))) (.cons (.ret (.ix (.v 0) (.v 1))) .nil) .nil) (.cons (.ret (.ki 0)) .nil))⟩
def cellI (ns : List Int) (k : Int) : Int := ns.getD k.toNat 0
theorem cell_ok {Γ : FT} {n : Nat} {X : Str → Prop} {K : Rv → Prop} (ns : List Int) (k : Int) (h : 0 ≤ k) (q : K (.fr false (.int (cellI ns k)))) : RS X (runF Γ n cell [.list (ns.map .int), .int k]) K := by
  refine rs_run ?_
  obtain ⟨k, rfl⟩ := Int.eq_ofNat_of_zero_le h
  simp [cell, startE]
  unfold cellI at q
  constructor
  · intro hk
    rw [ix_list (d := .int ns[k]) (by simp [hk])]
    simpa [hk] using q
  · intro hk
    simpa [hk] using q
theorem cell_eq {Γ : FT} {n : Nat} (ns : List Int) (k : Int) (h : 0 ≤ k) : runF Γ n cell [.list (ns.map .int), .int k] = .ok (.fr false (.int (cellI ns k))) := by
  obtain ⟨a, e, rfl⟩ := rs_eq (cell_ok (Γ := Γ) (n := n) (K := fun v => v = .fr false (.int (cellI ns k))) ns k h rfl)
  exact e
def stream : MF := ⟨5, (.cons (.set 2 (.lst .nil) true) (.cons (.set 3 (.bin .Add (.bin .Mod (.v 0) (.ki 2147483647)) (.ki 1)) false) (.cons (.for_ (.n 4) (.r1 (.v 1)) (.cons (.set 3 (.bin .Mod (.bin .Add (.bin .Add (.bin .Mult (.v 3) (.ki 48271)) (.bin .Mult (.bin .Mult (.ki 7) (.v 4)) (.v 4))) (.ki 3)) (.ki 2147483647)) false) (.cons (.app 2 (.bin .FloorDiv (.v 3) (.ki 16))) .nil))) (.cons (.reto 2) .nil))))⟩
theorem stream_ok {Γ : FT} {n : Nat} {X : Str → Prop} {K : Rv → Prop} (c m : Int) (h0 : 0 ≤ m) (h1 : m ≤ 1000) (q : ∀ l : List Int, l.length = m.toNat → (∀ x ∈ l, 0 ≤ x) → K (.ow false (.list (l.map .int)))) : RS X (runF Γ n stream [.int c, .int m]) K := by
  refine rs_run ?_
  simp [stream, startE, mod_int, rg1_le m h0 (by omega)]
  obtain ⟨I, hI⟩ : ∃ I : Nat → List Sl → Prop, ∀ i e, I i e = ∃ (s : Sl) (l : List Int) (x : Int) (L : D), e = [.fr false (.int c), .fr false (.int m), .ow false L, .fr false (.int x), s] ∧ L = .list (l.map .int) ∧ l.length = i ∧ (∀ y ∈ l, 0 ≤ y) ∧ 0 ≤ x := ⟨_, fun _ _ => rfl⟩
  refine fs_for I ?_ (fun i d e hd h => ?_) (fun e h => ?_)
  · rw [hI]
    exact ⟨_, [], _, _, rfl, rfl, rfl, by simp, by omega⟩
  · rw [hI] at h
    obtain ⟨s, l, x, L, rfl, rfl, hl, hp, hx⟩ := h
    obtain ⟨hi, rfl⟩ := rngD_at hd
    have b2 : (-1000000000 < (i : Int) ∧ (i : Int) < 1000000000) := by omega
    simp [mul_r (i := x) (j := 48271) (by decide), mul_l (i := 7) (j := (i : Int)) (by decide), mul_r (i := 7 * (i : Int)) (j := (i : Int)) b2, mod_int, div_int]
    refine ⟨slt (by omega), ?_⟩
    rw [hI]
    refine ⟨_, l ++ [_], _, _, rfl, by simp; rfl, by simp [hl], ?_, by omega⟩
    intro y hy
    rcases List.mem_append.mp hy with hy | hy
    · exact hp y hy
    · rw [List.mem_singleton.mp hy]
      omega
  · rw [hI] at h
    obtain ⟨s, l, x, L, rfl, rfl, hl, hp, hx⟩ := h
    simp
    exact q l (by simpa [rngD] using hl) hp
theorem stream_okN {Γ : FT} {n : Nat} {X : Str → Prop} {K : Rv → Prop} (c : Int) (m : Nat) (h1 : m ≤ 1000) (q : ∀ l : List Int, l.length = m → (∀ x ∈ l, 0 ≤ x) → K (.ow false (.list (l.map .int)))) : RS X (runF Γ n stream [.int c, .int (m : Int)]) K := by
  have k0 : (0 : Int) ≤ (m : Int) := by omega
  have k1 : (m : Int) ≤ 1000 := by omega
  have k2 : (m : Int).toNat = m := Int.toNat_natCast m
  generalize (m : Int) = z at *
  exact stream_ok c z k0 k1 fun l hl hp => q l (hl.trans k2) hp
/-- x is y -/
def truth : MF := ⟨2, (.cons (.ret (.bop true (.cons (.isi (.v 0) "bool") (.cons (.cmp .Eq (.v 0) (.v 1)) .nil)))) .nil)⟩
def row : MF := ⟨5, (.cons (.set 3 (.lst .nil) true) (.cons (.for_ (.n 4) (.e (.call "_law_stream" (.cons (.v 0) (.cons (.v 1) .nil)))) (.cons (.ife (.cmp .Gt (.bin .Mod (.v 4) (.v 2)) (.ki 0)) (.cons (.app 3 (.ks "-")) .nil) (.cons (.app 3 (.ix (.ks "01") (.bin .Mod (.bin .FloorDiv (.v 4) (.ki 64)) (.ki 2)))) .nil)) .nil)) (.frz 3 (.cons (.ret (.mt (.ks "") "join" (.cons (.v 3) .nil))) .nil))))⟩
def StreamAt (Γ : FT) : Prop := ∃ Γ' n, Γ "_law_stream" = some (2, fun ds => runF Γ' n stream ds)
theorem sing_flat (l : Tx) : (l.map fun c => [c]).flatten = l := by
  induction l with
  | nil => rfl
  | cons c l ih => rw [List.map_cons, List.flatten_cons, ih]; rfl
theorem sing_len (l : Tx) : ((l.map fun c => [c]).map List.length).sum = l.length := by
  induction l with
  | nil => rfl
  | cons c l ih =>
    rw [List.map_cons, List.map_cons, List.sum_cons, ih, List.length_cons]
    show 1 + l.length = l.length + 1
    omega
theorem mem_app {P : Nat → Prop} {l : Tx} {y : Nat} (h : ∀ x ∈ l, P x) (hy : P y) : ∀ x ∈ l ++ [y], P x := fun x hx => by
  rcases List.mem_append.mp hx with hx | hx
  · exact h x hx
  · rw [List.mem_singleton.mp hx]; exact hy
theorem join_sg {l : Tx} (h : l.length ≤ 16777216) : semMt (tx []) "join" [.list (l.map fun c => tx [c])] = some (false, tx l) := by
  have := join_tx (ts := l.map fun c => [c]) (by rw [sing_len]; exact sz _ h)
  rw [sing_flat, List.map_map] at this
  exact this
end M
end En

set_option Elab.async false
set_option linter.all false
set_option maxRecDepth 100000
set_option maxHeartbeats 4000000
namespace En
open PySem PySem.Spec PyProof.Rows L2

/-! ### equal lists of plain things -/
def Flat (d : D) : Prop := d.canLay0 = true ∧ d.depth = 0
theorem flat_tx {l : Tx} (h : ∀ c ∈ l, c < 1114112) : Flat (tx l) := by
  refine ⟨?_, by simp [tx, PyData.depth]⟩
  unfold tx
  simp only [PyData.canLay0, PyData.strOk]
  simpa using h
theorem lay_all : ∀ {l : List D}, (∀ d ∈ l, Flat d) → PyData.canLayAll0 l = true ∧ PyData.depthAll l = 0
  | [], _ => ⟨by simp [PyData.canLayAll0], by simp [PyData.depthAll]⟩
  | d :: l, h => by
    have a := lay_all fun e he => h e (List.mem_cons_of_mem _ he)
    have b := h d List.mem_cons_self
    exact ⟨by simp [PyData.canLayAll0, a.1, b.1], by simp [PyData.depthAll, a.2, b.2]⟩
theorem shp_list {l : List D} (h : ∀ d ∈ l, Flat d) : shp (.list l) = true := by
  have := lay_all h
  simp [shp, SeqAt.shaped, PyData.canLay0, PyData.depth, this.1, this.2]
theorem eqv_all_nil (l : List D) : PyData.eqvAll l [] = decide (l = []) := by cases l <;> simp [PyData.eqvAll]
theorem eq_nil {l : List D} (h : ∀ d ∈ l, Flat d) : eqO (.list l) (.list []) = some (decide (l = [])) := by
  have e : (shp (.list l) && shp (.list [])) = true := by rw [shp_list h, shp_list (by simp)]; rfl
  show (if (shp (.list l) && shp (.list [])) = true then some (PyData.eqv (.list l) (.list [])) else none) = _
  rw [if_pos e]
  congr 1
  simp [PyData.eqv, eqv_all_nil]
/-! ### a letter in a row -/
def Hold (r l : Tx) : Prop := ∀ (i a b : Nat), r[i]? = some a → l[i]? = some b → a = 45 ∨ a = b
theorem hold_self (l : Tx) : Hold l l := fun i a b h1 h2 => .inr (by rw [h1] at h2; cases h2; rfl)
theorem zip_at {α β : Type} {f : α → β → D} {l : List α} {k : List β} {i : Nat} {d : D} (h : (List.zipWith f l k)[i]? = some d) : ∃ (hi : i < l.length) (hj : i < k.length), d = f l[i] k[i] := by
  rw [List.getElem?_zipWith] at h
  by_cases hi : i < l.length
  · by_cases hj : i < k.length
    · rw [List.getElem?_eq_getElem hi, List.getElem?_eq_getElem hj] at h
      cases h
      exact ⟨hi, hj, rfl⟩
    · rw [List.getElem?_eq_none (l := k) (by omega)] at h
      simp at h
  · rw [List.getElem?_eq_none (l := l) (by omega)] at h
    simp at h
@[simp] theorem zipR_tx (m m' : Bool) (a b : Tx) : zipR (.fr m (tx a)) (.fr m' (tx b)) = .ok (m || m', List.zipWith (fun d e => .tuple [d, e]) (a.map fun c => tx [c]) (b.map fun c => tx [c])) := zipR_ok (ds := a.map fun c => tx [c]) (es := b.map fun c => tx [c]) (by rfl) (by rfl) (items_tx a) (items_tx b)
@[simp] theorem zipR_txl (m m' : Bool) (a : Tx) (b : List D) : zipR (.fr m (tx a)) (.ow m' (.list b)) = .ok (m || m', List.zipWith (fun d e => .tuple [d, e]) (a.map fun c => tx [c]) b) := zipR_ok (ds := a.map fun c => tx [c]) (es := b) (by rfl) (by rfl) (items_tx a) (by rfl)
namespace M
end M
end En

set_option Elab.async false
set_option linter.all false
set_option maxRecDepth 100000
set_option maxHeartbeats 4000000
namespace En
open PySem L2

/-! ### an over written on a row -/
def wr (r o : Tx) : Tx := List.zipWith (fun a b => if b = 45 then a else b) r o
theorem wr_len (r o : Tx) : (wr r o).length = min r.length o.length := List.length_zipWith
theorem wr_get {r o : Tx} {i : Nat} (h1 : i < r.length) (h2 : i < o.length) : (wr r o)[i]? = some (if o[i] = 45 then r[i] else o[i]) := by
  unfold wr
  rw [List.getElem?_zipWith, List.getElem?_eq_getElem h1, List.getElem?_eq_getElem h2]
theorem take_get {α : Type} {l : List α} {i : Nat} {a : α} (h : l[i]? = some a) : l.take (i + 1) = l.take i ++ [a] := by
  rw [List.take_add_one, h]
  rfl
namespace M
def written : MF := ⟨5, (.cons (.set 2 (.lst .nil) true) (.cons (.for_ (.t [3, 4]) (.zip (.v 0) (.v 1)) (.cons (.ife (.cmp .Eq (.v 4) (.ks "-")) (.cons (.set 4 (.v 3) false) .nil) .nil) (.cons (.app 2 (.v 4)) .nil))) (.frz 2 (.cons (.ret (.mt (.ks "") "join" (.cons (.v 2) .nil))) .nil))))⟩
end M
end En

set_option Elab.async false
set_option linter.all false
set_option maxRecDepth 100000
set_option maxHeartbeats 4000000
namespace En
open PySem L2

/-! ### rows that meet -/
def Cl (a b : Tx) : Prop := ∃ i x y : Nat, a[i]? = some x ∧ b[i]? = some y ∧ x ≠ 45 ∧ y ≠ 45 ∧ x ≠ y
def mt (a b : Tx) : Tx := List.zipWith (fun x y => if x = 45 then y else x) a b
theorem mt_len (r o : Tx) : (mt r o).length = min r.length o.length := List.length_zipWith
theorem mt_get {r o : Tx} {i : Nat} (h1 : i < r.length) (h2 : i < o.length) : (mt r o)[i]? = some (if r[i] = 45 then o[i] else r[i]) := by
  unfold mt
  rw [List.getElem?_zipWith, List.getElem?_eq_getElem h1, List.getElem?_eq_getElem h2]
def NoCl (i : Nat) (a b : Tx) : Prop := ∀ j, j < i → ∀ x y : Nat, a[j]? = some x → b[j]? = some y → ¬ (x ≠ 45 ∧ y ≠ 45 ∧ x ≠ y)
theorem nocl_step {i : Nat} {a b : Tx} (h1 : i < a.length) (h2 : i < b.length) (h : NoCl i a b) (n : ¬ (a[i] ≠ 45 ∧ b[i] ≠ 45 ∧ a[i] ≠ b[i])) : NoCl (i + 1) a b := fun j hj x y e1 e2 => by
  by_cases hji : j < i
  · exact h j hji x y e1 e2
  · have : j = i := by omega
    subst this
    rw [List.getElem?_eq_getElem h1] at e1
    rw [List.getElem?_eq_getElem h2] at e2
    cases e1; cases e2
    exact n
theorem nocl_end {i : Nat} {a b : Tx} (hi : min a.length b.length ≤ i) (h : NoCl i a b) : ¬ Cl a b := fun ⟨j, x, y, e1, e2, n⟩ => by
  have := (List.getElem?_eq_some_iff.mp e1).1
  have := (List.getElem?_eq_some_iff.mp e2).1
  exact h j (by omega) x y e1 e2 n
theorem cl_of {i : Nat} {a b : Tx} (h1 : i < a.length) (h2 : i < b.length) (n : a[i] ≠ 45 ∧ b[i] ≠ 45 ∧ a[i] ≠ b[i]) : Cl a b := ⟨i, _, _, List.getElem?_eq_getElem h1, List.getElem?_eq_getElem h2, n⟩
namespace M
def fits : MF := ⟨4, (.cons (.for_ (.t [2, 3]) (.zip (.v 0) (.v 1)) (.cons (.ife (.bop true (.cons (.cmp .NotEq (.v 2) (.ks "-")) (.cons (.cmp .NotEq (.v 3) (.ks "-")) (.cons (.cmp .NotEq (.v 2) (.v 3)) .nil)))) (.cons (.ret (.kb false)) .nil) .nil) .nil)) (.cons (.ret (.kb true)) .nil))⟩
theorem fits_ok {Γ : FT} {n : Nat} {X : Str → Prop} {K : Rv → Prop} (a b : Tx) (q : ∀ t : Bool, (t = true ↔ ¬ Cl a b) → K (.fr false (.bool t))) : RS X (runF Γ n fits [tx a, tx b]) K := by
  refine rs_run ?_
  simp [fits, startE]
  obtain ⟨I, hI⟩ : ∃ I : Nat → List Sl → Prop, ∀ i e, I i e = ∃ (s s' : Sl), e = [.fr false (tx a), .fr false (tx b), s, s'] ∧ NoCl i a b := ⟨_, fun _ _ => rfl⟩
  refine fs_for I ?_ (fun i d e hd h => ?_) (fun e h => ?_)
  · rw [hI]
    exact ⟨_, _, rfl, fun j hj => absurd hj (Nat.not_lt_zero j)⟩
  · rw [hI] at h
    obtain ⟨s, s', rfl, h⟩ := h
    obtain ⟨hi, hj, rfl⟩ := zip_at hd
    have nx : ¬ (a[i] ≠ 45 ∧ b[i] ≠ 45 ∧ a[i] ≠ b[i]) → I (i + 1) [.fr false (tx a), .fr false (tx b), .fr false (tx [a[i]]), .fr false (tx [b[i]])] := fun hn => by
      rw [hI]
      exact ⟨_, _, rfl, nocl_step hi hj h hn⟩
    have cl := cl_of hi hj
    simp
    refine ⟨fun h1 h2 h3 => q false ⟨fun z => (nomatch z), fun z => absurd (cl ⟨h1, h2, h3⟩) z⟩, fun h => nx fun z => z.2.2 (h z.1 z.2.1)⟩
  · rw [hI] at h
    obtain ⟨s, s', rfl, h⟩ := h
    try simp
    exact q true ⟨fun _ => nocl_end (by rw [List.length_zipWith]; exact Nat.le_refl _) h, fun _ => rfl⟩
end M
end En

set_option Elab.async false
set_option linter.all false
set_option maxRecDepth 100000
set_option maxHeartbeats 4000000
namespace En
open PySem L2

@[simp] theorem int_bool (b : Bool) : s_int [.bool b] = some (false, .int (if b then 1 else 0)) := rfl
/-- how many letters lie in a row -/
def sizeI (r : Tx) : Int := 2 ^ (r.count 45)
namespace M
def size : MF := ⟨3, (.cons (.set 1 (.ki 1) false) (.cons (.for_ (.n 2) (.r1 (.mt (.v 0) "count" (.cons (.ks "-") .nil))) (.cons (.set 1 (.bin .Mult (.v 1) (.ki 2)) false) .nil)) (.cons (.ret (.v 1)) .nil)))⟩
end M
end En

set_option Elab.async false
set_option linter.all false
set_option maxRecDepth 100000
set_option maxHeartbeats 4000000
namespace En
open PySem L2

theorem set_app {l : Tx} {i c : Nat} (h : i < l.length) : l.take i ++ [c] ++ l.drop (i + 1) = l.set i c := by
  rw [List.set_eq_take_append_cons_drop, if_pos h, List.append_assoc]
  rfl
@[simp] theorem is_nn : isO .none .none = some true := (rfl)
@[simp] theorem is_tn (l : Tx) : isO (tx l) .none = some false := (rfl)
@[simp] theorem is_ln (l : List D) : isO (.list l) .none = some false := (rfl)
theorem sp_to {l : Tx} {i : Nat} (h : l.length ≤ 1000) : semSl (tx l) none (some (i : Int)) = some (false, tx (l.take i)) := by rw [sl_tx (sz _ (by omega)), cut_to]
theorem sp_from {l : Tx} {i : Nat} (h : l.length ≤ 1000) : semSl (tx l) (some ((i : Int) + 1)) none = some (false, tx (l.drop (i + 1))) := by
  have := cut_from (l := l) (k := i + 1)
  rw [sl_tx (sz _ (by omega))]
  rw [show ((i : Int) + 1) = ((i + 1 : Nat) : Int) by omega, this]
theorem sp_a1 {l : Tx} {i c : Nat} (h : l.length ≤ 1000) : semBin .Add (tx (l.take i)) (tx [c]) = some (false, tx (l.take i ++ [c])) := add_tx (sz _ (by rw [List.length_take]; simp; omega))
theorem sp_a2 {l : Tx} {i c : Nat} (h : l.length ≤ 1000) (hi : i < l.length) : semBin .Add (tx (l.take i ++ [c])) (tx (l.drop (i + 1))) = some (false, tx (l.set i c)) := by
  rw [add_tx (sz _ (by rw [List.length_append, List.length_take, List.length_drop]; simp; omega)), set_app hi]
namespace M
def both : MF := ⟨3, (.cons (.ife (.not_ (.call "_law_fits" (.cons (.v 0) (.cons (.v 1) .nil)))) (.cons (.ret (.ki 0)) .nil) .nil) (.cons (.ret (.call "_law_size" (.cons (.mt (.ks "") "join" (.cons (.lc (.n 2) (.r1 (.bi "len" (.cons (.v 0) .nil))) .no (.ix (.lst (.cons (.ix (.v 0) (.v 2)) (.cons (.ix (.v 1) (.v 2)) .nil))) (.bi "int" (.cons (.cmp .Eq (.ix (.v 0) (.v 2)) (.ks "-")) .nil)))) .nil)) .nil))) .nil))⟩
def FitsAt (Γ : FT) : Prop := ∃ Γ' n, Γ "_law_fits" = some (2, fun ds => runF Γ' n fits ds)
def apart : MF := ⟨3, (.cons (.for_ (.n 1) (.r1 (.bi "len" (.cons (.v 0) .nil))) (.cons (.for_ (.n 2) (.r1 (.v 1)) (.cons (.ife (.call "_law_fits" (.cons (.ix (.v 0) (.v 1)) (.cons (.ix (.v 0) (.v 2)) .nil))) (.cons (.ret (.kb false)) .nil) .nil) .nil)) .nil)) (.cons (.ret (.kb true)) .nil))⟩
def less : MF := ⟨7, (.cons (.ife (.cmp .Is (.call "row_meet" (.cons (.v 0) (.cons (.v 1) .nil))) .kn) (.cons (.ret (.lst (.cons (.v 0) .nil))) .nil) .nil) (.cons (.set 2 (.lst .nil) true) (.cons (.set 3 (.v 0) false) (.cons (.for_ (.t [4, 5]) (.enum (.v 1)) (.cons (.ife (.bop true (.cons (.cmp .NotEq (.v 5) (.ks "-")) (.cons (.cmp .Eq (.ix (.v 3) (.v 4)) (.ks "-")) .nil))) (.cons (.set 6 (.ks "0") false) (.cons (.ife (.cmp .Eq (.v 5) (.ks "0")) (.cons (.set 6 (.ks "1") false) .nil) .nil) (.cons (.app 2 (.bin .Add (.bin .Add (.sl (.v 3) .no (.so (.v 4))) (.v 6)) (.sl (.v 3) (.so (.bin .Add (.v 4) (.ki 1))) .no))) (.cons (.set 3 (.bin .Add (.bin .Add (.sl (.v 3) .no (.so (.v 4))) (.v 5)) (.sl (.v 3) (.so (.bin .Add (.v 4) (.ki 1))) .no)) false) .nil)))) .nil) .nil)) (.cons (.reto 2) .nil)))))⟩
end M
end En

set_option Elab.async false
set_option linter.all false
set_option maxRecDepth 100000
set_option maxHeartbeats 4000000
namespace En
open PySem L2

@[simp] theorem rs_noErr {α : Type} {X : Str → Prop} (r : R α) (K : α → Prop) : RS X (noErr r) K = RS (fun _ => False) r K := by
  cases r with
  | ok a => simp
  | err x => simp [noErr]
  | bad => simp [noErr]
/-- a branch, by what holds behind both arms -/
theorem fs_cut {X : Str → Prop} {B C : List Sl → Prop} {Q : Rv → Prop} {N : List Sl → Prop} {t : Bool} {a b : Fl} (M : List Sl → Prop) (h1 : t = true → FS X B C Q a M) (h2 : t = false → FS X B C Q b M) (h3 : ∀ e, M e → N e) : FS X B C Q (ifR t a b) N := by
  cases t with
  | true => exact fs_imp (h1 rfl) h3
  | false => exact fs_imp (h2 rfl) h3
theorem isi_list (d : D) : semIsi d "list" = some (match d with | .list _ => true | _ => false) := by
  unfold semIsi
  rw [if_neg (by decide), if_neg (by decide), if_neg (by decide), if_pos rfl]
  all_goals (cases d <;> rfl)
@[simp] theorem isi_list_l (l : List D) : semIsi (.list l) "list" = some true := isi_list _
theorem allO_int : ∀ ns : List Int, allO isInt (ns.map .int) = some ns
  | [] => rfl
  | n :: ns => by
    rw [List.map_cons, allO, allO_int ns]
    rfl
end En

set_option Elab.async false
set_option linter.all false
set_option maxRecDepth 100000
set_option maxHeartbeats 4000000
namespace En
open PySem L2

/-- all letters of a length -/
def choicesL : Nat → List Tx
  | 0 => [[]]
  | k + 1 => (choicesL k).map (fun c => c ++ [48]) ++ (choicesL k).map (fun c => c ++ [49])
theorem choices_len : ∀ k, (choicesL k).length = 2 ^ k
  | 0 => rfl
  | k + 1 => by
    show ((choicesL k).map _ ++ (choicesL k).map _).length = _
    rw [List.length_append, List.length_map, List.length_map, choices_len k, Nat.pow_succ]
    omega
theorem choices_ltr : ∀ {k : Nat} {c : Tx}, c ∈ choicesL k → Ltr k c
  | 0, c, h => by
    rw [List.mem_singleton.mp h]
    exact ⟨rfl, by simp⟩
  | k + 1, c, h => by
    rcases List.mem_append.mp h with h | h
    · obtain ⟨d, hd, rfl⟩ := List.mem_map.mp h
      have := choices_ltr hd
      exact ⟨by simp [this.1], M.mem_app this.2 (.inl rfl)⟩
    · obtain ⟨d, hd, rfl⟩ := List.mem_map.mp h
      have := choices_ltr hd
      exact ⟨by simp [this.1], M.mem_app this.2 (.inr rfl)⟩
theorem choices_all : ∀ {k : Nat} {c : Tx}, Ltr k c → c ∈ choicesL k
  | 0, c, h => by
    have : c = [] := List.eq_nil_of_length_eq_zero h.1
    rw [this]
    exact List.mem_singleton.mpr rfl
  | k + 1, c, h => by
    have hne : c ≠ [] := fun z => by rw [z] at h; cases h.1
    obtain ⟨d, x, rfl⟩ : ∃ d x, c = d ++ [x] := ⟨c.dropLast, c.getLast hne, (List.dropLast_concat_getLast hne).symm⟩
    have hl := h.1
    rw [List.length_append, List.length_singleton] at hl
    have hd : Ltr k d := ⟨by omega, fun y hy => h.2 y (List.mem_append_left _ hy)⟩
    have hx := h.2 x (List.mem_append_right _ (List.mem_singleton.mpr rfl))
    have := choices_all hd
    rcases hx with rfl | rfl
    · exact List.mem_append_left _ (List.mem_map.mpr ⟨d, this, rfl⟩)
    · exact List.mem_append_right _ (List.mem_map.mpr ⟨d, this, rfl⟩)
/-- signs written at places -/
def spreadL (s : Tx) (ps : List Nat) (b : Tx) : Tx := (s.zip ps).foldl (fun b x => b.set x.2 x.1) b
theorem lc_map {X : Str → Prop} {f : D → R (Option (Bool × D))} {α : Type} {xs : List α} {enc : α → D} {g : α → D} {K : Bool × List D → Prop} (hf : ∀ x ∈ xs, f (enc x) = .ok (some (false, g x))) (q : K (false, xs.map g)) : RS X (lcR f (xs.map enc)) K := by
  have e : lcR f (xs.map enc) = .ok (false, xs.map g) := by
    clear q
    induction xs with
    | nil => rfl
    | cons x xs ih =>
      show (f (enc x)).bind _ = _
      rw [hf x List.mem_cons_self, bind_ok', ih fun y hy => hf y (List.mem_cons_of_mem _ hy)]
      rfl
  rw [e, rs_ok]
  exact q
@[simp] theorem zipR_txf (m m' : Bool) (a : Tx) (b : List D) : zipR (.fr m (tx a)) (.fr m' (.list b)) = .ok (m || m', List.zipWith (fun d e => .tuple [d, e]) (a.map fun c => tx [c]) b) := zipR_ok (ds := a.map fun c => tx [c]) (es := b) (by rfl) (by rfl) (items_tx a) (by rfl)
namespace M
def width : MF := ⟨1, (.cons (.ife (.cmp .Lt (.bin .Mod (.v 0) (.ki 4)) (.ki 3)) (.cons (.ret (.bin .Add (.ki 1) (.bin .Mod (.bin .FloorDiv (.v 0) (.ki 4)) (.ki 6)))) .nil) .nil) (.cons (.ret (.bin .Add (.ki 7) (.bin .Mod (.bin .FloorDiv (.v 0) (.ki 4)) (.ki 42)))) .nil))⟩
theorem width_ok {Γ : FT} {n : Nat} {X : Str → Prop} {K : Rv → Prop} (c : Int) (q : ∀ w : Nat, 1 ≤ w → w ≤ 48 → K (.fr false (.int w))) : RS X (runF Γ n width [.int c]) K := by
  have q' : ∀ z : Int, 1 ≤ z → z ≤ 48 → K (.fr false (.int z)) := fun z h1 h2 => by
    obtain ⟨w, rfl⟩ := Int.eq_ofNat_of_zero_le (show 0 ≤ z by omega)
    exact q w (by omega) (by omega)
  refine rs_run ?_
  simp [width, startE, En.mod_int, En.div_int]
  refine ⟨fun _ => q' _ (by omega) (by omega), fun _ => q' _ (by omega) (by omega)⟩
def choices : MF := ⟨4, (.cons (.set 1 (.lst (.cons (.ks "") .nil)) false) (.cons (.for_ (.n 2) (.r1 (.v 0)) (.cons (.set 1 (.bin .Add (.lc (.n 3) (.e (.v 1)) .no (.bin .Add (.v 3) (.ks "0"))) (.lc (.n 3) (.e (.v 1)) .no (.bin .Add (.v 3) (.ks "1")))) false) .nil)) (.cons (.ret (.v 1)) .nil)))⟩
theorem choices_ok {Γ : FT} {n : Nat} {X : Str → Prop} {K : Rv → Prop} (m : Nat) (hm : m ≤ 8) (q : K (.fr false (.list ((choicesL m).map tx)))) : RS X (runF Γ n choices [.int (m : Int)]) K := by
  refine rs_run ?_
  simp [choices, startE, sz 1 (by decide)]
  rw [rg1_le _ (by omega) (by omega)]
  simp
  obtain ⟨I, hI⟩ : ∃ I : Nat → List Sl → Prop, ∀ i e, I i e = ∃ (s s' : Sl), e = [.fr false (.int (m : Int)), .fr false (.list ((choicesL i).map tx)), s, s'] := ⟨_, fun _ _ => rfl⟩
  refine fs_for I ?_ (fun i d e hd h => ?_) (fun e h => ?_)
  · rw [hI]
    exact ⟨_, _, rfl⟩
  · rw [hI] at h
    obtain ⟨s, s', rfl⟩ := h
    obtain ⟨hi, rfl⟩ := rngD_at hd
    have hp : 2 ^ i ≤ 2 ^ 8 := Nat.pow_le_pow_right (by decide) (by omega)
    have hl := choices_len i
    have ad : ∀ c ∈ choicesL i, ∀ y : Nat, semBin .Add (tx c) (tx [y]) = some (false, tx (c ++ [y])) := fun c hc y => add_tx (sz _ (by have := (choices_ltr hc).1; simp; omega))
    simp
    refine lc_map (g := fun c => tx (c ++ [48])) (fun c hc => by simp [lcT, ad c hc]) ?_
    refine ⟨sz _ (by omega), ?_⟩
    refine lc_map (g := fun c => tx (c ++ [49])) (fun c hc => by simp [lcT, ad c hc]) ?_
    refine ⟨sz _ (by omega), ?_⟩
    have al := add_list (a := (choicesL i).map fun c => tx (c ++ [48])) (b := (choicesL i).map fun c => tx (c ++ [49])) (sz _ (by rw [List.length_map, List.length_map]; omega))
    simp [al]
    rw [hI]
    have e : (choicesL (i + 1)).map tx = ((choicesL i).map fun c => tx (c ++ [48])) ++ (choicesL i).map fun c => tx (c ++ [49]) := by
      show ((choicesL i).map (fun c => c ++ [48]) ++ (choicesL i).map (fun c => c ++ [49])).map tx = _
      rw [List.map_append, List.map_map, List.map_map]
      rfl
    exact ⟨_, _, by rw [e]⟩
  · rw [hI] at h
    obtain ⟨s, s', rfl⟩ := h
    simp [rngD]
    exact q
def spread : MF := ⟨5, (.cons (.for_ (.t [3, 4]) (.zip (.v 0) (.v 1)) (.cons (.set 2 (.bin .Add (.bin .Add (.sl (.v 2) .no (.so (.v 4))) (.v 3)) (.sl (.v 2) (.so (.bin .Add (.v 4) (.ki 1))) .no)) false) .nil)) (.cons (.ret (.v 2)) .nil))⟩
theorem spread_ok {Γ : FT} {n : Nat} {X : Str → Prop} {K : Rv → Prop} (s : Tx) (ps : List Nat) (b : Tx) (hb : b.length ≤ 1000) (hp : ∀ p ∈ ps, p < b.length) (q : K (.fr false (tx (spreadL s ps b)))) : RS X (runF Γ n spread [tx s, .list (ps.map fun (p : Nat) => .int (p : Int)), tx b]) K := by
  refine rs_run ?_
  simp [spread, startE]
  obtain ⟨I, hI⟩ : ∃ I : Nat → List Sl → Prop, ∀ i e, I i e = ∃ (s' s'' : Sl) (b' : Tx), e = [.fr false (tx s), .fr true (.list (ps.map fun (p : Nat) => .int (p : Int))), .fr false (tx b'), s', s''] ∧ b'.length = b.length ∧ b' = ((s.zip ps).take i).foldl (fun b x => b.set x.2 x.1) b := ⟨_, fun _ _ => rfl⟩
  refine fs_for I ?_ (fun i d e hd h => ?_) (fun e h => ?_)
  · rw [hI]
    exact ⟨_, _, _, rfl, rfl, rfl⟩
  · rw [hI] at h
    obtain ⟨s', s'', b', rfl, hl, he⟩ := h
    obtain ⟨hi, hj, rfl⟩ := zip_at hd
    have hpi : ps[i] < b'.length := by rw [hl]; exact hp _ (List.getElem_mem hj)
    have g : ((s.zip ps).take (i + 1)) = (s.zip ps).take i ++ [(s[i], ps[i])] := take_get (by rw [List.getElem?_eq_getElem (by rw [List.length_zip]; omega), List.getElem_zip])
    have bl : b'.length ≤ 1000 := by omega
    simp [sp_to bl, sp_from bl, sp_a1 bl, sp_a2 bl hpi]
    rw [hI]
    refine ⟨_, _, _, rfl, by rw [List.length_set]; exact hl, ?_⟩
    rw [g, List.foldl_append, ← he]
    rfl
  · rw [hI] at h
    obtain ⟨s', s'', b', rfl, hl, he⟩ := h
    have e : (s.zip ps).take (List.zipWith (fun (a : Nat) (b : Nat) => PyData.tuple [tx [a], PyData.int (b : Int)]) s ps).length = s.zip ps := List.take_of_length_le (by rw [List.length_zip, List.length_zipWith]; exact Nat.le_refl _)
    rw [e] at he
    simp
    rw [he]
    exact q
end M
end En

set_option Elab.async false
set_option linter.all false
set_option maxRecDepth 100000
set_option maxHeartbeats 4000000
namespace En
open PySem L2

def putR (o : Option Sl) (i : Nat) (env : List Sl) (p : Bool × D) (y : R Rv) : Fl := match o with
  | some (.ow m (.list ds)) => .of y fun y => match y.d with
    | .int n => match ixN ds.length n with
      | some j => .next (env.set i (.ow (m || p.1) (.list (ds.set j p.2))))
      | none => .bad
    | _ => .bad
  | _ => .bad
def putJ (o : Option Nat) (m : Bool) (ds : List D) (i : Nat) (env : List Sl) (p : Bool × D) : Fl := match o with
  | some j => .next (env.set i (.ow (m || p.1) (.list (ds.set j p.2))))
  | none => .bad
@[simp] theorem putJ_some (j : Nat) (m : Bool) (ds : List D) (i : Nat) (env : List Sl) (p : Bool × D) : putJ (some j) m ds i env p = .next (env.set i (.ow (m || p.1) (.list (ds.set j p.2)))) := (rfl)
def putI (m : Bool) (ds : List D) (i : Nat) (env : List Sl) (p : Bool × D) : D → Fl
  | .int n => putJ (ixN ds.length n) m ds i env p
  | _ => .bad
@[simp] theorem putI_int (m : Bool) (ds : List D) (i : Nat) (env : List Sl) (p : Bool × D) (n : Int) : putI m ds i env p (.int n) = putJ (ixN ds.length n) m ds i env p := (rfl)
@[simp] theorem putR_ow (m : Bool) (ds : List D) (i : Nat) (env : List Sl) (p : Bool × D) (y : R Rv) : putR (some (.ow m (.list ds))) i env p y = .of y fun y => putI m ds i env p y.d := by
  simp only [putR]
  congr 1 <;> (funext y; cases y.d <;> rfl)
@[simp] theorem s_put {Γ : FT} {fuel : Nat} {env : List Sl} (i : Nat) (k e : ME) : evS Γ fuel (.put i k e) env = .of (evE Γ env e) fun x => .of (sto x) fun p => putR env[i]? i env p (evE Γ env k) := by rw [evS]; rfl
theorem ix_m1 {n : Nat} : ixN (n + 1) (-1) = some n := by
  unfold ixN
  rw [if_neg (by omega), if_pos (by omega)]
  congr 1
  omega
theorem ix_01d (i : Int) (h0 : 0 ≤ i) (h1 : i < 3) : ∃ c, Sg c ∧ semIx (tx [48, 49, 45]) (.int i) = some (tx [c]) := by
  obtain ⟨n, rfl⟩ := Int.eq_ofNat_of_zero_le h0
  have : n = 0 ∨ n = 1 ∨ n = 2 := by omega
  rcases this with rfl | rfl | rfl
  · exact ⟨48, .inl rfl, ix_tx (sz _ (by decide)) rfl⟩
  · exact ⟨49, .inr (.inl rfl), ix_tx (sz _ (by decide)) rfl⟩
  · exact ⟨45, .inr (.inr rfl), ix_tx (sz _ (by decide)) rfl⟩
namespace M
def shorts : MF := ⟨7, (.cons (.set 2 (.lst .nil) true) (.cons (.for_ (.n 3) (.e (.v 0)) (.cons (.set 4 (.bin .Add (.ki 1) (.bin .Mod (.v 3) (.ki 3))) false) (.cons (.set 5 (.lst .nil) true) (.cons (.for_ (.n 6) (.e (.call "_law_stream" (.cons (.bin .FloorDiv (.v 3) (.ki 3)) (.cons (.v 1) .nil)))) (.cons (.app 5 (.ix (.ks "01-") (.bin .Mod (.bin .FloorDiv (.v 6) (.ki 8)) (.ki 3)))) (.cons (.ife (.cmp .Lt (.bin .Mod (.v 6) (.ki 4)) (.bin .Sub (.v 4) (.ki 1))) (.cons (.put 5 (.neg (.ki 1)) (.ks "-")) .nil) .nil) .nil))) (.frz 5 (.cons (.app 2 (.mt (.ks "") "join" (.cons (.v 5) .nil))) .nil)))))) (.cons (.reto 2) .nil)))⟩
theorem shorts_ok {Γ : FT} {n : Nat} {X : Str → Prop} {K : Rv → Prop} (hs : StreamAt Γ) (cs : List Int) (m : Nat) (hm : m ≤ 1000) (hc : cs.length ≤ 1000) (q : ∀ ss : List Tx, ss.length = cs.length → (∀ s ∈ ss, Row m s) → K (.ow false (.list (ss.map tx)))) : RS X (runF Γ n shorts [.list (cs.map .int), .int (m : Int)]) K := by
  obtain ⟨Γ', n', es⟩ := hs
  refine rs_run ?_
  simp [shorts, startE]
  obtain ⟨I, hI⟩ : ∃ I : Nat → List Sl → Prop, ∀ i e, I i e = ∃ (s3 s4 s5 s6 : Sl) (ss : List Tx) (L : D), e = [.fr true (.list (cs.map .int)), .fr false (.int (m : Int)), .ow false L, s3, s4, s5, s6] ∧ L = .list (ss.map tx) ∧ ss.length = i ∧ ∀ s ∈ ss, Row m s := ⟨_, fun _ _ => rfl⟩
  refine fs_for I ?_ (fun i d e hd h => ?_) (fun e h => ?_)
  · rw [hI]
    exact ⟨_, _, _, _, [], _, rfl, rfl, rfl, by simp⟩
  · rw [hI] at h
    obtain ⟨s3, s4, s5, s6, ss, L, rfl, rfl, hl, hr⟩ := h
    obtain ⟨hi, rfl⟩ := map_at hd
    generalize cs[i] = c
    simp [En.mod_int, En.div_int, e_call es]
    refine stream_okN (c / 3) m hm fun l hll hlp => ?_
    simp
    obtain ⟨J, hJ⟩ : ∃ J : Nat → List Sl → Prop, ∀ j e, J j e = ∃ (s6 : Sl) (k : Tx) (L : D), e = [.fr true (.list (cs.map .int)), .fr false (.int (m : Int)), .ow false (.list (ss.map tx)), .fr true (.int c), .fr false (.int (1 + c % 3)), .ow false L, s6] ∧ L = .list (k.map fun c => tx [c]) ∧ k.length = j ∧ ∀ y ∈ k, Sg y := ⟨_, fun _ _ => rfl⟩
    refine fs_for J ?_ (fun j d e hd h => ?_) (fun e h => ?_)
    · rw [hJ]
      exact ⟨_, [], _, rfl, rfl, rfl, by simp⟩
    · rw [hJ] at h
      obtain ⟨s6, k, L, rfl, rfl, hk, hsg⟩ := h
      obtain ⟨hj, rfl⟩ := map_at hd
      have := hlp l[j] (List.getElem_mem hj)
      generalize l[j] = x at *
      obtain ⟨b, hb, eb⟩ := ix_01d (x / 8 % 3) (by omega) (by omega)
      have zz : k.length < sizeLine := slt (by omega)
      simp [En.mod_int, En.div_int, eb, zz, ix_m1]
      refine ⟨fun _ => ?_, fun _ => ?_⟩ <;> rw [hJ]
      · exact ⟨_, k ++ [45], _, rfl, by simp, by simp [hk], mem_app hsg (.inr (.inr rfl))⟩
      · exact ⟨_, k ++ [b], _, rfl, by simp, by simp [hk], mem_app hsg hb⟩
    · rw [hJ] at h
      obtain ⟨s6, k, L, rfl, rfl, hk, hsg⟩ := h
      rw [List.length_map] at hk
      have zz : ss.length < sizeLine := slt (by omega)
      simp [join_sg (l := k) (by omega), zz]
      rw [hI]
      refine ⟨_, _, _, _, ss ++ [k], _, rfl, by simp, by simp [hl], fun s hs => ?_⟩
      rcases List.mem_append.mp hs with hs | hs
      · exact hr s hs
      · rw [List.mem_singleton.mp hs]
        exact ⟨by omega, hsg⟩
  · rw [hI] at h
    obtain ⟨s3, s4, s5, s6, ss, L, rfl, rfl, hl, hr⟩ := h
    simp
    exact q ss (by simpa using hl) hr
end M
end En

set_option Elab.async false
set_option linter.all false
set_option maxRecDepth 100000
set_option maxHeartbeats 4000000
namespace En
open PySem L2

theorem in_ints (z : Int) (ns : List Int) : inO (.int z) (.list (ns.map .int)) = some (decide (z ∈ ns)) := by
  have e : (sc (.int z) && (ns.map PyData.int).all sc) = true := by simp [sc]
  show (if (sc (.int z) && (ns.map PyData.int).all sc) = true then some ((ns.map PyData.int).any fun y => PyData.eqv y (.int z)) else _) = _
  rw [if_pos e]
  congr 1
  rw [List.any_map, Bool.eq_iff_iff]
  simp [PyData.eqv]
theorem sorted_ints {ns : List Int} (h : ns.length < 64) : semBi "sorted" [.list (ns.map .int)] = some (true, .list ((sortI ns).map .int)) := by
  have e : semBi "sorted" [.list (ns.map .int)] = s_sorted [.list (ns.map .int)] := by
    unfold semBi
    rw [if_neg (by decide), if_neg (by decide), if_neg (by decide), if_neg (by decide), if_neg (by decide), if_neg (by decide), if_neg (by decide), if_neg (by decide), if_neg (by decide), if_pos rfl]
  rw [e]
  show ((allO isInt (ns.map .int)).bind fun ns => if ns.length < 64 then some (true, PyData.list ((sortI ns).map .int)) else none) = _
  rw [allO_int]
  show (if ns.length < 64 then _ else _) = _
  rw [if_pos h]
theorem e_lr1 {Γ : FT} {env : List Sl} (a : ME) : evE Γ env (.lr (.so a) .no) = (evE Γ env a).bind fun x => (intR x.d).bind fun o => match o with
    | some n => if -(2 ^ 62) ≤ n ∧ n < 2 ^ 62 ∧ n.toNat ≤ 2 ^ 24 then .ok (.ow false (.list (rngD 0 n.toNat))) else .bad
    | none => .bad := by
  rw [evE]
  simp only [eo_so, eo_no, bind_ok']
  cases evE Γ env a with
  | bad => rfl
  | err x => rfl
  | ok x =>
    simp only [bind_ok']
    cases x.d <;> first | rfl | simp [intR, sm, R.bind, and_assoc]
theorem rng_nat (n : Nat) : rngD 0 n = (List.range n).map fun (p : Nat) => .int (p : Int) := by
  unfold rngD
  apply List.map_congr_left
  intro p _
  simp
namespace M
def places : MF := ⟨5, (.cons (.ife (.cmp .LtE (.v 1) (.ki 6)) (.cons (.ret (.lr (.so (.v 1)) .no)) .nil) .nil) (.cons (.set 2 (.lst .nil) true) (.cons (.set 3 (.ki 5) false) (.cons (.ife (.cmp .Eq (.bin .Mod (.bin .FloorDiv (.v 0) (.ki 11)) (.ki 6)) (.ki 1)) (.cons (.set 3 (.ki 8) false) .nil) .nil) (.cons (.for_ (.n 4) (.e (.call "_law_stream" (.cons (.v 0) (.cons (.v 3) .nil)))) (.cons (.ife (.cmp .NotIn (.bin .Mod (.v 4) (.v 1)) (.v 2)) (.cons (.app 2 (.bin .Mod (.v 4) (.v 1))) .nil) .nil) .nil)) (.frz 2 (.cons (.ret (.bi "sorted" (.cons (.v 2) .nil))) .nil)))))))⟩
theorem places_ok {Γ : FT} {n : Nat} {X : Str → Prop} {K : Rv → Prop} (hs : StreamAt Γ) (c : Int) (w : Nat) (w1 : 1 ≤ w) (w2 : w ≤ 48) (q : ∀ ps : List Nat, ps.Nodup → (∀ p ∈ ps, p < w) → 1 ≤ ps.length → ps.length ≤ 8 → K (.ow false (.list (ps.map fun (p : Nat) => .int (p : Int))))) : RS X (runF Γ n places [.int c, .int (w : Int)]) K := by
  obtain ⟨Γ', n', es⟩ := hs
  refine rs_run ?_
  simp [-fs_if, places, startE, e_lr1]
  rw [fs_if]
  refine ⟨fun hw => ?_, fun hw => ?_⟩
  · have hw : w ≤ 6 := by
      have := of_decide_eq_true hw
      omega
    rw [if_pos (by omega), fs_ret]
    rw [rng_nat]
    exact q (List.range w) List.nodup_range (fun p hp => List.mem_range.mp hp) (by simpa using w1) (by simp; omega)
  · have wz : (0 : Int) < (w : Int) := by omega
    simp [-fs_if, En.mod_int, En.div_int]
    refine fs_cut (fun e => ∃ m : Nat, 1 ≤ m ∧ m ≤ 8 ∧ e = [.fr false (.int c), .fr false (.int (w : Int)), .ow false (.list []), .fr false (.int (m : Int)), .no]) (fun _ => ?_) (fun _ => ?_) (fun e h => ?_)
    · simp
      exact ⟨8, by omega, by omega, rfl⟩
    · simp
      exact ⟨5, by omega, by omega, rfl⟩
    obtain ⟨m, m1, m2, rfl⟩ := h
    simp [e_call es]
    refine stream_okN c m (by omega) fun l hl hp => ?_
    simp
    obtain ⟨I, hI⟩ : ∃ I : Nat → List Sl → Prop, ∀ i e, I i e = ∃ (s : Sl) (ks : List Int) (L : D), e = [.fr false (.int c), .fr false (.int (w : Int)), .ow false L, .fr false (.int (m : Int)), s] ∧ L = .list (ks.map .int) ∧ ks.Nodup ∧ (∀ k ∈ ks, 0 ≤ k ∧ k < w) ∧ ks.length ≤ i ∧ (1 ≤ i → 1 ≤ ks.length) := ⟨_, fun _ _ => rfl⟩
    refine fs_for I ?_ (fun i d e hd h => ?_) (fun e h => ?_)
    · rw [hI]
      exact ⟨_, [], _, rfl, rfl, List.nodup_nil, by simp, Nat.le_refl _, fun h => absurd h (by decide)⟩
    · rw [hI] at h
      obtain ⟨s, ks, L, rfl, rfl, hn, hb, hk, hk1⟩ := h
      obtain ⟨hi, rfl⟩ := map_at hd
      generalize l[i] = x
      have b1 := Int.emod_nonneg x (show (w : Int) ≠ 0 by omega)
      have b2 := Int.emod_lt_of_pos x wz
      have zz : ks.length < sizeLine := slt (by omega)
      simp [En.mod_int wz, in_ints, zz]
      refine ⟨fun hx => ?_, fun hx => ?_⟩ <;> rw [hI]
      · refine ⟨_, ks ++ [x % w], _, rfl, by simp, ?_, fun k hk' => ?_, by simp; omega, fun _ => by simp⟩
        · exact List.nodup_append.mpr ⟨hn, by simp, fun a ha b hb' => by rw [List.mem_singleton.mp hb']; exact fun z => hx (z ▸ ha)⟩
        · rcases List.mem_append.mp hk' with hk' | hk'
          · exact hb k hk'
          · rw [List.mem_singleton.mp hk']
            exact ⟨b1, b2⟩
      · exact ⟨_, ks, _, rfl, rfl, hn, hb, by omega, fun _ => List.length_pos_of_mem hx⟩
    · rw [hI] at h
      obtain ⟨s, ks, L, rfl, rfl, hn, hb, hk, hk1⟩ := h
      rw [List.length_map, hl] at hk hk1
      simp [sorted_ints (ns := ks) (by omega)]
      have pm : (sortI ks).Perm ks := List.mergeSort_perm _ _
      have e : (sortI ks).map PyData.int = ((sortI ks).map Int.toNat).map fun (p : Nat) => .int (p : Int) := by
        rw [List.map_map]
        apply List.map_congr_left
        intro k hk'
        have := hb k (pm.mem_iff.mp hk')
        show PyData.int k = .int ((k.toNat : Nat) : Int)
        rw [Int.toNat_of_nonneg this.1]
      rw [e]
      refine q _ ?_ (fun p hp' => ?_) (by rw [List.length_map, pm.length_eq]; omega) (by rw [List.length_map, pm.length_eq]; omega)
      · have : ((sortI ks).map Int.toNat).Nodup := by
          refine List.pairwise_map.mpr ?_
          refine List.Pairwise.imp_of_mem ?_ (pm.nodup_iff.mpr hn)
          intro a b ha hb' hne z
          have h1 := hb a (pm.mem_iff.mp ha)
          have h2 := hb b (pm.mem_iff.mp hb')
          exact hne (by omega)
        exact this
      · obtain ⟨k, hk', rfl⟩ := List.mem_map.mp hp'
        have := hb k (pm.mem_iff.mp hk')
        omega
end M
end En

set_option Elab.async false
set_option linter.all false
set_option maxRecDepth 100000
set_option maxHeartbeats 4000000
namespace En
open PySem L2

theorem sg_small {c : Nat} (h : Sg c) : c < 1114112 := by rcases h with h | h | h <;> omega
theorem flat_row {w : Nat} {r : Tx} (h : Row w r) : Flat (tx r) := flat_tx fun c hc => sg_small (h.2 c hc)
namespace M
def has : MF := ⟨3, (.cons (.for_ (.n 2) (.e (.v 0)) (.cons (.ife (.call "row_holds" (.cons (.v 2) (.cons (.v 1) .nil))) (.cons (.ret (.kb true)) .nil) .nil) .nil)) (.cons (.ret (.kb false)) .nil))⟩
end M
end En

set_option Elab.async false
set_option linter.all false
set_option maxRecDepth 100000
set_option maxHeartbeats 4000000
namespace En
open PySem L2

@[simp] theorem imms_tx (l : List Tx) : imms (l.map tx) = true := by
  induction l with
  | nil => simp
  | cons a l ih => simp [ih]
/-- whether a choice fits some row -/
noncomputable def fitsAny (ss : List Tx) (c : Tx) : Bool := @decide (∃ s ∈ ss, ¬ Cl s c) (Classical.propDecidable _)
theorem fitsAny_iff {ss : List Tx} {c : Tx} : fitsAny ss c = true ↔ ∃ s ∈ ss, ¬ Cl s c := by
  unfold fitsAny
  exact @decide_eq_true_iff _ (Classical.propDecidable _)
namespace M
def ChoicesAt (Γ : FT) : Prop := ∃ Γ' n, Γ "_law_choices" = some (1, fun ds => runF Γ' n choices ds)
def good : MF := ⟨5, (.cons (.set 2 (.lst .nil) true) (.cons (.for_ (.n 3) (.e (.call "_law_choices" (.cons (.v 1) .nil))) (.cons (.ife (.cmp .NotEq (.lc (.n 4) (.e (.v 0)) (.so (.call "_law_fits" (.cons (.v 4) (.cons (.v 3) .nil)))) (.v 4)) (.lst .nil)) (.cons (.app 2 (.v 3)) .nil) .nil) .nil)) (.cons (.reto 2) .nil)))⟩
theorem good_ok {Γ : FT} {n : Nat} {X : Str → Prop} {K : Rv → Prop} (hc : ChoicesAt Γ) (hf : FitsAt Γ) {m : Nat} (hm : m ≤ 8) (ss : List Tx) (hl : ss.length ≤ 1000) (hs : ∀ s ∈ ss, Row m s) (q : K (.ow false (.list (((choicesL m).filter (fitsAny ss)).map tx)))) : RS X (runF Γ n good [.list (ss.map tx), .int (m : Int)]) K := by
  obtain ⟨Γ1, n1, e1⟩ := hc
  obtain ⟨Γ2, n2, e2⟩ := hf
  refine rs_run ?_
  simp [good, startE, e_call e1]
  refine choices_ok (Γ := Γ1) m hm ?_
  simp
  obtain ⟨I, hI⟩ : ∃ I : Nat → List Sl → Prop, ∀ i e, I i e = ∃ (s s' : Sl) (L : D), e = [.fr true (.list (ss.map tx)), .fr false (.int (m : Int)), .ow false L, s, s'] ∧ L = .list ((((choicesL m).take i).filter (fitsAny ss)).map tx) := ⟨_, fun _ _ => rfl⟩
  refine fs_for I ?_ (fun i d e hd h => ?_) (fun e h => ?_)
  · rw [hI]
    exact ⟨_, _, _, rfl, rfl⟩
  · rw [hI] at h
    obtain ⟨s, s', L, rfl, rfl⟩ := h
    obtain ⟨hi, rfl⟩ := map_at hd
    have g := take_get (List.getElem?_eq_getElem hi)
    have hcl := choices_ltr (List.getElem_mem hi)
    have few : (((choicesL m).take i).filter (fitsAny ss)).length < sizeLine := slt (by
      have a1 := List.length_filter_le (fitsAny ss) ((choicesL m).take i)
      have a2 := choices_len m
      have a3 : 2 ^ m ≤ 2 ^ 8 := Nat.pow_le_pow_right (by decide) hm
      rw [List.length_take] at a1
      omega)
    generalize (choicesL m)[i] = c at *
    simp
    refine rs_lc (fun j mm L => mm = false ∧ ∃ fl : List Tx, L = fl.map tx ∧ (∀ f ∈ fl, f ∈ ss) ∧ (fl = [] ↔ ∀ s ∈ ss.take j, Cl s c)) ⟨rfl, [], rfl, by simp, by simp⟩ (fun j d mm L hd' h => ?_) (fun mm L h => ?_)
    · obtain ⟨rfl, fl, rfl, hfl, hfe⟩ := h
      obtain ⟨hj, rfl⟩ := map_at hd'
      have gj := take_get (List.getElem?_eq_getElem hj)
      have hmem := List.getElem_mem hj
      generalize ss[j] = s at *
      simp [lcT, e_call e2]
      refine fits_ok (Γ := Γ2) s c fun t ht => ?_
      cases t with
      | true =>
        simp
        refine ⟨fl ++ [s], by simp, fun f hf => ?_, ?_⟩
        · rcases List.mem_append.mp hf with hf | hf
          · exact hfl f hf
          · rw [List.mem_singleton.mp hf]; exact hmem
        · refine ⟨fun z => absurd z (by simp), fun z => ?_⟩
          exact absurd (z s (by rw [gj]; simp)) (ht.mp rfl)
      | false =>
        simp
        refine ⟨fl, rfl, hfl, ?_⟩
        rw [hfe, gj]
        refine ⟨fun z s' hs' => ?_, fun z s' hs' => z s' (List.mem_append_left _ hs')⟩
        rcases List.mem_append.mp hs' with hs' | hs'
        · exact z s' hs'
        · rw [List.mem_singleton.mp hs']
          exact Classical.byContradiction fun h => by have := ht.mpr h; cases this
    · obtain ⟨rfl, fl, rfl, hfl, hfe⟩ := h
      rw [List.length_map, List.take_of_length_le (Nat.le_refl _)] at hfe
      rw [eq_nil (l := fl.map tx) (fun d hd => by obtain ⟨f, hf, rfl⟩ := List.mem_map.mp hd; exact flat_row (hs f (hfl f hf)))]
      refine ⟨sz _ (by omega), ?_⟩
      have key : fitsAny ss c = !decide (fl.map tx = []) := by
        rw [Bool.eq_iff_iff, fitsAny_iff]
        simp
        rw [hfe]
        simp
      have gf : ((choicesL m).take (i + 1)).filter (fitsAny ss) = ((choicesL m).take i).filter (fitsAny ss) ++ (if fitsAny ss c then [c] else []) := by
        rw [g, List.filter_append]
        congr 1
        rw [List.filter_cons, List.filter_nil]
      rw [Option.map_some, liftB_some, rs_ok, truth_b, rs_ok, ← key]
      refine ⟨fun hk => ⟨few, ?_⟩, fun hk => ?_⟩ <;> rw [hI]
      · refine ⟨_, _, _, rfl, ?_⟩
        rw [gf, if_pos hk, List.map_append]
        rfl
      · refine ⟨_, _, _, rfl, ?_⟩
        rw [gf, if_neg (by rw [hk]; decide), List.append_nil]
  · rw [hI] at h
    obtain ⟨s, s', L, rfl, rfl⟩ := h
    rw [List.length_map, List.take_of_length_le (Nat.le_refl _)]
    simp
    exact q
end M
end En

set_option Elab.async false
set_option linter.all false
set_option maxRecDepth 100000
set_option maxHeartbeats 4000000
namespace En
open PySem L2

theorem nodup_le {α : Type} [DecidableEq α] : ∀ {l m : List α}, l.Nodup → (∀ a ∈ l, a ∈ m) → l.length ≤ m.length
  | [], m, _, _ => Nat.zero_le _
  | a :: l, m, hn, hs => by
    have hn' := List.nodup_cons.mp hn
    have ha := hs a List.mem_cons_self
    have := nodup_le (l := l) (m := m.erase a) hn'.2 fun b hb => by
      have hne : b ≠ a := fun z => hn'.1 (z ▸ hb)
      exact (List.mem_erase_of_ne hne).mpr (hs b (List.mem_cons_of_mem _ hb))
    rw [List.length_erase_of_mem ha] at this
    have := List.length_pos_of_mem ha
    rw [List.length_cons]
    omega
/-- a row's signs at places, where it tells none the first one -/
def atP (ps : List Nat) (r : Tx) : Tx := ps.map fun p => if r.getD p 45 = 45 then 48 else r.getD p 45
theorem atP_ltr {w : Nat} {r : Tx} (ps : List Nat) (h : Row w r) : Ltr ps.length (atP ps r) := by
  refine ⟨by simp [atP], fun c hc => ?_⟩
  obtain ⟨p, hp, rfl⟩ := List.mem_map.mp hc
  show Bt (if r.getD p 45 = 45 then 48 else r.getD p 45)
  split
  · exact .inl rfl
  · rename_i hz
    rw [List.getD_eq_getElem?_getD] at hz ⊢
    cases e : r[p]? with
    | none => rw [e] at hz; exact absurd rfl hz
    | some x =>
      rw [e] at hz
      obtain ⟨hi, ex⟩ := List.getElem?_eq_some_iff.mp e
      have := h.2 x (by rw [← ex]; exact List.getElem_mem hi)
      rcases this with h1 | h1 | h1
      · exact .inl h1
      · exact .inr h1
      · exact absurd h1 hz
theorem few_rows {w : Nat} {rs : List Tx} {ps : List Nat} (hr : ∀ r ∈ rs, Row w r) (ht : ∀ r ∈ rs, ∀ i x : Nat, r[i]? = some x → x ≠ 45 → i ∈ ps) (ha : rs.Pairwise fun a b => Cl b a) : rs.length ≤ 2 ^ ps.length := by
  have h1 : (rs.map (atP ps)).Nodup := by
    refine List.pairwise_map.mpr ?_
    refine List.Pairwise.imp_of_mem ?_ ha
    intro a b hma hmb ⟨i, x, y, e1, e2, n1, n2, n3⟩ z
    have hi := ht b hmb i x e1 n1
    have key : ∀ p ∈ ps, (if a.getD p 45 = 45 then 48 else a.getD p 45) = (if b.getD p 45 = 45 then 48 else b.getD p 45) := fun p hp => by
      have : ps.map (fun p => if a.getD p 45 = 45 then 48 else a.getD p 45) = ps.map fun p => if b.getD p 45 = 45 then 48 else b.getD p 45 := z
      exact List.map_inj_left.mp this p hp
    have k := key i hi
    rw [List.getD_eq_getElem?_getD, List.getD_eq_getElem?_getD, e1, e2] at k
    simp [n1, n2] at k
    exact n3 k.symm
  have h2 := nodup_le h1 (m := choicesL ps.length) fun c hc => by
    obtain ⟨r, hm, rfl⟩ := List.mem_map.mp hc
    exact choices_all (atP_ltr ps (hr r hm))
  rw [List.length_map, choices_len] at h2
  exact h2
end En

set_option Elab.async false
set_option linter.all false
set_option maxRecDepth 100000
set_option maxHeartbeats 4000000
namespace En
open PySem L2

theorem cl_no {a l : Tx} {w : Nat} {f : Tx} (hf : Row w f) (ho : Row w a) (hl : Ltr w l) (h : Cl f a) (h1 : Hold f l) : ¬ Hold a l := fun h2 => by
  obtain ⟨i, x, y, e1, e2, n1, n2, n3⟩ := h
  have hi := (List.getElem?_eq_some_iff.mp e1).1
  rw [hf.1] at hi
  have e3 := List.getElem?_eq_getElem (l := l) (i := i) (by rw [hl.1]; exact hi)
  have k1 := (h1 i _ _ e1 e3).resolve_left n1
  have k2 := (h2 i _ _ e2 e3).resolve_left n2
  exact n3 (k1.trans k2.symm)
/-- rows apart, that tell some places alone, with the letters of S -/
structure Pcs (w : Nat) (ps : List Nat) (S : Tx → Prop) (rs : List Tx) : Prop where
  row : ∀ r ∈ rs, Row w r
  tell : ∀ r ∈ rs, ∀ i x : Nat, r[i]? = some x → x ≠ 45 → i ∈ ps
  apart : rs.Pairwise fun a b => Cl b a
  cov : ∀ l, Ltr w l → ((∃ r ∈ rs, Hold r l) ↔ S l)
theorem Pcs.few {w : Nat} {ps : List Nat} {S : Tx → Prop} {rs : List Tx} (h : Pcs w ps S rs) : rs.length ≤ 2 ^ ps.length := few_rows h.row h.tell h.apart
end En

set_option Elab.async false
set_option linter.all false
set_option maxRecDepth 100000
set_option maxHeartbeats 4000000
namespace En
open PySem L2

namespace M
def beyond : MF := ⟨5, (.cons (.for_ (.n 2) (.e (.v 1)) (.cons (.set 3 (.lst .nil) true) (.cons (.for_ (.n 4) (.e (.v 0)) (.cons (.ext 3 (.call "row_less" (.cons (.v 4) (.cons (.v 2) .nil)))) .nil)) (.frz 3 (.cons (.set 0 (.v 3) false) .nil))))) (.cons (.ret (.v 0)) .nil))⟩
end M
end En

set_option Elab.async false
set_option linter.all false
set_option maxRecDepth 100000
set_option maxHeartbeats 4000000
namespace En
open PySem L2

/-- rows that do not clash have a letter in common -/
theorem common {w : Nat} {a b : Tx} (ha : Row w a) (hb : Row w b) (h : ¬ Cl a b) : ∃ l, Ltr w l ∧ Hold a l ∧ Hold b l := by
  have key : ∀ i (h1 : i < a.length) (h2 : i < b.length), ((mt a b).map fun c => if c = 45 then 48 else c)[i]? = some (if (if a[i] = 45 then b[i] else a[i]) = 45 then 48 else (if a[i] = 45 then b[i] else a[i])) := fun i h1 h2 => by
    rw [List.getElem?_map, mt_get h1 h2]
    rfl
  refine ⟨(mt a b).map fun c => if c = 45 then 48 else c, ⟨by rw [List.length_map, mt_len, ha.1, hb.1, Nat.min_self], fun c hc => ?_⟩, fun i x y e1 e2 => ?_, fun i x y e1 e2 => ?_⟩
  · obtain ⟨d, hd, rfl⟩ := List.mem_map.mp hc
    obtain ⟨i, hi, e⟩ := List.getElem_of_mem hd
    rw [mt_len] at hi
    have g := mt_get (r := a) (o := b) (i := i) (by omega) (by omega)
    rw [List.getElem?_eq_getElem (by rw [mt_len]; exact hi), e] at g
    have sg : Sg d := by
      have := Option.some.inj g
      rw [this]
      split
      · exact hb.2 _ (List.getElem_mem _)
      · exact ha.2 _ (List.getElem_mem _)
    show Bt (if d = 45 then 48 else d)
    split
    · exact .inl rfl
    · rename_i hz
      rcases sg with h | h | h
      · exact .inl h
      · exact .inr h
      · exact absurd h hz
  · have hi := (List.getElem?_eq_some_iff.mp e1).1
    have h2 : i < b.length := by rw [hb.1, ← ha.1]; exact hi
    rw [key i hi h2] at e2
    rw [List.getElem?_eq_getElem hi] at e1
    cases e1
    by_cases hz : a[i] = 45
    · exact .inl hz
    · rw [if_neg hz, if_neg hz] at e2
      exact .inr (Option.some.inj e2)
  · have hi := (List.getElem?_eq_some_iff.mp e1).1
    have h1 : i < a.length := by rw [ha.1, ← hb.1]; exact hi
    rw [key i h1 hi] at e2
    have ex := e1
    rw [List.getElem?_eq_getElem hi] at e1
    cases e1
    by_cases hb' : b[i] = 45
    · exact .inl hb'
    · by_cases hz : a[i] = 45
      · rw [if_pos hz, if_neg hb'] at e2
        exact .inr (Option.some.inj e2)
      · rw [if_neg hz, if_neg hz] at e2
        by_cases hab : a[i] = b[i]
        · exact .inr (hab.symm.trans (Option.some.inj e2))
        · exact absurd ⟨i, _, _, List.getElem?_eq_getElem h1, ex, hz, hb', hab⟩ h
namespace M
end M
end En

set_option Elab.async false
set_option linter.all false
set_option maxRecDepth 100000
set_option maxHeartbeats 4000000
namespace En
open PySem L2

/-! ### how many letters -/
noncomputable def dec (P : Tx → Prop) : Tx → Bool := fun l => @decide (P l) (Classical.propDecidable _)
theorem dec_iff {P : Tx → Prop} {l : Tx} : dec P l = true ↔ P l := @decide_eq_true_iff _ (Classical.propDecidable _)
noncomputable def cnt (w : Nat) (P : Tx → Prop) : Nat := ((choicesL w).filter (dec P)).length
theorem cnt_congr {w : Nat} {P Q : Tx → Prop} (h : ∀ l, Ltr w l → (P l ↔ Q l)) : cnt w P = cnt w Q := by
  have e : ∀ l ∈ choicesL w, dec P l = dec Q l := fun l hl => by
    rw [Bool.eq_iff_iff, dec_iff, dec_iff]
    exact h l (choices_ltr hl)
  unfold cnt
  rw [List.filter_congr e]
theorem cnt_succ (k : Nat) (P : Tx → Prop) : cnt (k + 1) P = cnt k (fun c => P (c ++ [48])) + cnt k (fun c => P (c ++ [49])) := by
  unfold cnt
  show (((choicesL k).map (fun c => c ++ [48]) ++ (choicesL k).map (fun c => c ++ [49])).filter (dec P)).length = _
  rw [List.filter_append, List.length_append, List.filter_map, List.filter_map, List.length_map, List.length_map]
  rfl
theorem cnt_none (w : Nat) {P : Tx → Prop} (h : ∀ l, Ltr w l → ¬ P l) : cnt w P = 0 := by
  unfold cnt
  rw [List.length_eq_zero_iff, List.filter_eq_nil_iff]
  intro l hl hz
  exact h l (choices_ltr hl) (dec_iff.mp hz)
theorem hold_app {r c : Tx} {x y : Nat} (h : r.length = c.length) : Hold (r ++ [x]) (c ++ [y]) ↔ Hold r c ∧ (x = 45 ∨ x = y) := by
  constructor
  · refine fun z => ⟨fun i a b e1 e2 => ?_, ?_⟩
    · have h1 := (List.getElem?_eq_some_iff.mp e1).1
      have h2 := (List.getElem?_eq_some_iff.mp e2).1
      exact z i a b (by rw [List.getElem?_append_left h1]; exact e1) (by rw [List.getElem?_append_left h2]; exact e2)
    · exact z r.length x y (by simp) (by rw [h]; simp)
  · rintro ⟨z1, z2⟩ i a b e1 e2
    by_cases hi : i < r.length
    · rw [List.getElem?_append_left hi] at e1
      rw [List.getElem?_append_left (by omega)] at e2
      exact z1 i a b e1 e2
    · have h1 := (List.getElem?_eq_some_iff.mp e1).1
      rw [List.length_append, List.length_singleton] at h1
      have : i = r.length := by omega
      subst this
      have ex : (r ++ [x])[r.length]? = some x := by simp
      have ey : (c ++ [y])[r.length]? = some y := by rw [h]; simp
      rw [ex] at e1
      rw [ey] at e2
      cases e1; cases e2
      exact z2
theorem size_cnt : ∀ {w : Nat} {r : Tx}, Row w r → sizeI r = (cnt w (Hold r) : Int)
  | 0, r, h => by
    have : r = [] := List.eq_nil_of_length_eq_zero h.1
    subst this
    have : cnt 0 (Hold []) = 1 := by
      unfold cnt
      show ([[]].filter (dec (Hold []))).length = 1
      rw [List.filter_cons, if_pos (dec_iff.mpr (hold_self []))]
      rfl
    rw [this]
    rfl
  | k + 1, r, h => by
    have hne : r ≠ [] := fun z => by rw [z] at h; cases h.1
    obtain ⟨d, x, rfl⟩ : ∃ d x, r = d ++ [x] := ⟨r.dropLast, r.getLast hne, (List.dropLast_concat_getLast hne).symm⟩
    have hl := h.1
    rw [List.length_append, List.length_singleton] at hl
    have hd : Row k d := ⟨by omega, fun y hy => h.2 y (List.mem_append_left _ hy)⟩
    have hx := h.2 x (List.mem_append_right _ (List.mem_singleton.mpr rfl))
    have ih := size_cnt hd
    rw [cnt_succ]
    have e : ∀ y, cnt k (fun c => Hold (d ++ [x]) (c ++ [y])) = cnt k (fun c => Hold d c ∧ (x = 45 ∨ x = y)) := fun y => cnt_congr fun l hl' => hold_app (by rw [hd.1, hl'.1])
    rw [e, e]
    have yes : ∀ y, (x = 45 ∨ x = y) → cnt k (fun c => Hold d c ∧ (x = 45 ∨ x = y)) = cnt k (Hold d) := fun y hy => cnt_congr fun l _ => ⟨fun z => z.1, fun z => ⟨z, hy⟩⟩
    have no : ∀ y, ¬ (x = 45 ∨ x = y) → cnt k (fun c => Hold d c ∧ (x = 45 ∨ x = y)) = 0 := fun y hy => cnt_none k fun l _ z => hy z.2
    unfold sizeI at ih ⊢
    rw [List.count_append]
    rcases hx with rfl | rfl | rfl
    · rw [yes 48 (.inr rfl), no 49 (by decide)]
      simpa using ih
    · rw [no 48 (by decide), yes 49 (.inr rfl)]
      simpa using ih
    · rw [yes 48 (.inl rfl), yes 49 (.inl rfl)]
      have : List.count 45 [45] = 1 := rfl
      rw [this, Int.pow_succ, ih]
      push_cast
      omega
end En

set_option Elab.async false
set_option linter.all false
set_option maxRecDepth 100000
set_option maxHeartbeats 4000000
namespace En
open PySem L2

theorem filter_or {P Q R : Tx → Bool} : ∀ {l : List Tx}, (∀ a ∈ l, R a = (P a || Q a) ∧ ¬ (P a = true ∧ Q a = true)) → (l.filter R).length = (l.filter P).length + (l.filter Q).length
  | [], _ => rfl
  | a :: l, h => by
    have ih := filter_or fun b hb => h b (List.mem_cons_of_mem _ hb)
    obtain ⟨h1, h2⟩ := h a List.mem_cons_self
    rw [List.filter_cons, List.filter_cons, List.filter_cons, h1]
    cases hp : P a <;> cases hq : Q a
    · simpa using ih
    · simp
      omega
    · simp
      omega
    · exact absurd ⟨hp, hq⟩ h2
theorem cnt_or {w : Nat} {P Q : Tx → Prop} (h : ∀ l, Ltr w l → ¬ (P l ∧ Q l)) : cnt w (fun l => P l ∨ Q l) = cnt w P + cnt w Q := by
  unfold cnt
  refine filter_or fun l hl => ⟨?_, fun z => h l (choices_ltr hl) ⟨dec_iff.mp z.1, dec_iff.mp z.2⟩⟩
  rw [Bool.eq_iff_iff, dec_iff, Bool.or_eq_true, dec_iff, dec_iff]
/-- the sizes of rows apart are the count of their letters -/
theorem sum_cnt {w : Nat} : ∀ {rs : List Tx}, (∀ r ∈ rs, Row w r) → rs.Pairwise (fun a b => Cl b a) → (rs.map sizeI).sum = (cnt w (fun l => ∃ r ∈ rs, Hold r l) : Int)
  | [], _, _ => by
    rw [cnt_none w (fun l _ ⟨r, hr, _⟩ => nomatch hr)]
    rfl
  | r :: rs, hr, ha => by
    have hp := List.pairwise_cons.mp ha
    have ih := sum_cnt (fun a h => hr a (List.mem_cons_of_mem _ h)) hp.2
    have e : cnt w (fun l => ∃ a ∈ r :: rs, Hold a l) = cnt w (fun l => Hold r l ∨ ∃ a ∈ rs, Hold a l) := cnt_congr fun l _ => by simp
    rw [e, cnt_or, List.map_cons, List.sum_cons, ih, size_cnt (hr r List.mem_cons_self)]
    · omega
    · rintro l hl ⟨h1, a, ham, h2⟩
      exact cl_no (hr a (List.mem_cons_of_mem _ ham)) (hr r List.mem_cons_self) hl (hp.1 a ham) h2 h1
end En

set_option Elab.async false
set_option linter.all false
set_option maxRecDepth 100000
set_option maxHeartbeats 4000000
namespace En
open PySem L2

/-! ### signs written at places -/
def atS (ps : List Nat) (l : Tx) : Tx := ps.map fun p => l.getD p 45
theorem spread_cons (x : Nat) (s : Tx) (p : Nat) (ps : List Nat) (b : Tx) : spreadL (x :: s) (p :: ps) b = spreadL s ps (b.set p x) := rfl
theorem spread_len : ∀ {ps : List Nat} {s b : Tx}, (spreadL s ps b).length = b.length
  | [], s, b => by unfold spreadL; rw [List.zip_nil_right]; rfl
  | p :: ps, [], b => rfl
  | p :: ps, x :: s, b => by rw [spread_cons, spread_len, List.length_set]
theorem spread_other : ∀ {ps : List Nat} {s b : Tx} {q : Nat}, q ∉ ps → (spreadL s ps b)[q]? = b[q]?
  | [], s, b, q, _ => by unfold spreadL; rw [List.zip_nil_right]; rfl
  | p :: ps, [], b, q, _ => rfl
  | p :: ps, x :: s, b, q, h => by
    rw [spread_cons, spread_other fun z => h (List.mem_cons_of_mem _ z), List.getElem?_set_ne (show p ≠ q from fun z => h (by rw [z]; exact List.mem_cons_self))]
theorem spread_get : ∀ {ps : List Nat} {s b : Tx} {i p x : Nat}, ps.Nodup → (∀ p ∈ ps, p < b.length) → ps[i]? = some p → s[i]? = some x → (spreadL s ps b)[p]? = some x
  | [], s, b, i, p, x, _, _, h, _ => by cases h
  | q :: ps, [], b, i, p, x, _, _, _, h => by cases h
  | q :: ps, y :: s, b, 0, p, x, hn, hb, h1, h2 => by
    rw [spread_cons]
    cases h1; cases h2
    rw [spread_other (List.nodup_cons.mp hn).1, List.getElem?_set_self (hb q List.mem_cons_self)]
  | q :: ps, y :: s, b, i + 1, p, x, hn, hb, h1, h2 => by
    rw [spread_cons]
    exact spread_get (List.nodup_cons.mp hn).2 (fun p hp => by rw [List.length_set]; exact hb p (List.mem_cons_of_mem _ hp)) (by simpa using h1) (by simpa using h2)
theorem atS_len (ps : List Nat) (l : Tx) : (atS ps l).length = ps.length := List.length_map _
theorem atS_get {ps : List Nat} {l : Tx} {i p : Nat} (h : ps[i]? = some p) : (atS ps l)[i]? = some (l.getD p 45) := by
  unfold atS
  rw [List.getElem?_map, h]
  rfl
theorem getD_of {l : Tx} {p x : Nat} (h : l[p]? = some x) : l.getD p 45 = x := by rw [List.getD_eq_getElem?_getD, h]; rfl
theorem atS_ltr {w : Nat} {ps : List Nat} {l : Tx} (hp : ∀ p ∈ ps, p < w) (h : Ltr w l) : Ltr ps.length (atS ps l) := by
  refine ⟨atS_len _ _, fun c hc => ?_⟩
  obtain ⟨p, hp', rfl⟩ := List.mem_map.mp hc
  have hi : p < l.length := by rw [h.1]; exact hp p hp'
  rw [getD_of (List.getElem?_eq_getElem hi)]
  exact h.2 _ (List.getElem_mem hi)
theorem spread_row {w : Nat} {ps : List Nat} {s b : Tx} (hn : ps.Nodup) (hp : ∀ p ∈ ps, p < w) (hs : Row ps.length s) (hb : Row w b) : Row w (spreadL s ps b) := by
  refine ⟨by rw [spread_len]; exact hb.1, fun c hc => ?_⟩
  obtain ⟨q, hq, rfl⟩ := List.getElem_of_mem hc
  have e := List.getElem?_eq_getElem hq
  by_cases hm : q ∈ ps
  · obtain ⟨i, hi, ei⟩ := List.getElem_of_mem hm
    have hs' := List.getElem?_eq_getElem (l := s) (i := i) (by rw [hs.1]; exact hi)
    have := spread_get (b := b) hn (fun p h => by rw [hb.1]; exact hp p h) (by rw [List.getElem?_eq_getElem hi, ei]) hs'
    rw [this] at e
    rw [← Option.some.inj e]
    exact hs.2 _ (List.getElem_mem _)
  · rw [spread_other hm] at e
    exact hb.2 _ (List.mem_of_getElem? e)
theorem spread_ltr {w : Nat} {ps : List Nat} {s b : Tx} (hn : ps.Nodup) (hp : ∀ p ∈ ps, p < w) (hs : Ltr ps.length s) (hb : Ltr w b) : Ltr w (spreadL s ps b) := by
  refine ⟨by rw [spread_len]; exact hb.1, fun c hc => ?_⟩
  obtain ⟨q, hq, rfl⟩ := List.getElem_of_mem hc
  have e := List.getElem?_eq_getElem hq
  by_cases hm : q ∈ ps
  · obtain ⟨i, hi, ei⟩ := List.getElem_of_mem hm
    have hs' := List.getElem?_eq_getElem (l := s) (i := i) (by rw [hs.1]; exact hi)
    have := spread_get (b := b) hn (fun p h => by rw [hb.1]; exact hp p h) (by rw [List.getElem?_eq_getElem hi, ei]) hs'
    rw [this] at e
    rw [← Option.some.inj e]
    exact hs.2 _ (List.getElem_mem _)
  · rw [spread_other hm] at e
    exact hb.2 _ (List.mem_of_getElem? e)
theorem atS_spread {w : Nat} {ps : List Nat} {s b : Tx} (hn : ps.Nodup) (hp : ∀ p ∈ ps, p < w) (hs : s.length = ps.length) (hb : b.length = w) : atS ps (spreadL s ps b) = s := by
  apply List.ext_getElem?
  intro i
  by_cases hi : i < ps.length
  · have e := List.getElem?_eq_getElem hi
    have e2 := List.getElem?_eq_getElem (l := s) (i := i) (by omega)
    rw [atS_get e, e2, getD_of (spread_get hn (fun p h => by rw [hb]; exact hp p h) e e2)]
  · rw [List.getElem?_eq_none (by rw [atS_len]; omega), List.getElem?_eq_none (by omega)]
theorem spread_tell {w : Nat} {ps : List Nat} {s : Tx} (i x : Nat) (h : (spreadL s ps (List.replicate w 45))[i]? = some x) (n : x ≠ 45) : i ∈ ps := by
  refine Classical.byContradiction fun hm => ?_
  rw [spread_other hm] at h
  exact n (List.eq_of_mem_replicate (List.mem_of_getElem? h))
theorem dash_row (w : Nat) : Row w (List.replicate w 45) := ⟨List.length_replicate, fun c hc => .inr (.inr (List.eq_of_mem_replicate hc))⟩
theorem hold_spread {w : Nat} {ps : List Nat} {s l : Tx} (hn : ps.Nodup) (hp : ∀ p ∈ ps, p < w) (hs : s.length = ps.length) (hl : Ltr w l) : Hold (spreadL s ps (List.replicate w 45)) l ↔ ¬ Cl s (atS ps l) := by
  have hb : ∀ p ∈ ps, p < (List.replicate w 45).length := fun p h => by rw [List.length_replicate]; exact hp p h
  constructor
  · rintro h ⟨i, x, y, e1, e2, n1, n2, n3⟩
    have hi := (List.getElem?_eq_some_iff.mp e1).1
    have ei := List.getElem?_eq_getElem (l := ps) (i := i) (by omega)
    have g := spread_get hn hb ei e1
    rw [atS_get ei] at e2
    have hlt : ps[i] < l.length := by rw [hl.1]; exact hp _ (List.getElem_mem _)
    have el := List.getElem?_eq_getElem hlt
    rw [getD_of el] at e2
    rw [Option.some.inj e2] at el
    rcases h _ _ _ g el with z | z
    · exact n1 z
    · exact n3 z
  · intro h j a b e1 e2
    by_cases hm : j ∈ ps
    · obtain ⟨i, hi, ei⟩ := List.getElem_of_mem hm
      have ei' : ps[i]? = some j := by rw [List.getElem?_eq_getElem hi, ei]
      have es := List.getElem?_eq_getElem (l := s) (i := i) (by omega)
      rw [spread_get hn hb ei' es] at e1
      rw [← Option.some.inj e1]
      have hbt := hl.2 b (List.mem_of_getElem? e2)
      by_cases h1 : s[i] = 45
      · exact .inl h1
      · by_cases h2 : s[i] = b
        · exact .inr h2
        · refine absurd ⟨i, s[i], b, es, ?_, h1, by rcases hbt with z | z <;> omega, h2⟩ h
          rw [atS_get ei', getD_of e2]
    · rw [spread_other hm] at e1
      exact .inl (List.eq_of_mem_replicate (List.mem_of_getElem? e1))
theorem count_spread : ∀ {ps : List Nat} {s b : Tx}, ps.Nodup → s.length = ps.length → (∀ x ∈ s, x ≠ 45) → (∀ p ∈ ps, b[p]? = some 45) → (spreadL s ps b).count 45 + ps.length = b.count 45
  | [], s, b, _, _, _, _ => by unfold spreadL; rw [List.zip_nil_right]; rfl
  | p :: ps, [], b, _, h, _, _ => by cases h
  | p :: ps, x :: s, b, hn, hs, hx, hb => by
    have hn' := List.nodup_cons.mp hn
    obtain ⟨hi, e⟩ := List.getElem?_eq_some_iff.mp (hb p List.mem_cons_self)
    have ih := count_spread (ps := ps) (s := s) (b := b.set p x) hn'.2 (by simpa using hs) (fun y h => hx y (List.mem_cons_of_mem _ h)) fun q hq => by
      rw [List.getElem?_set_ne (show p ≠ q from fun z => hn'.1 (by rw [z]; exact hq))]
      exact hb q (List.mem_cons_of_mem _ hq)
    have h1 : 0 < b.count 45 := List.count_pos_iff.mpr (by rw [← e]; exact List.getElem_mem hi)
    have h2 : (b.set p x).count 45 = b.count 45 - 1 := by
      rw [List.count_set hi, e]
      simp [hx x List.mem_cons_self]
    rw [spread_cons, List.length_cons]
    omega
theorem size_spread {w : Nat} {ps : List Nat} {s : Tx} (hn : ps.Nodup) (hp : ∀ p ∈ ps, p < w) (hs : Ltr ps.length s) : sizeI (spreadL s ps (List.replicate w 45)) = 2 ^ (w - ps.length) := by
  have := count_spread (b := List.replicate w 45) hn hs.1 (fun x h => by rcases hs.2 x h with z | z <;> omega) fun p h => by
    rw [List.getElem?_eq_getElem (by rw [List.length_replicate]; exact hp p h), List.getElem_replicate]
  rw [List.count_replicate_self] at this
  unfold sizeI
  congr 1
  omega
theorem ltr_ne {k : Nat} {a b : Tx} (ha : Ltr k a) (hb : Ltr k b) (h : a ≠ b) : Cl b a := by
  refine Classical.byContradiction fun hn => h ?_
  apply List.ext_getElem?
  intro i
  by_cases hi : i < k
  · have e1 := List.getElem?_eq_getElem (l := a) (i := i) (by rw [ha.1]; exact hi)
    have e2 := List.getElem?_eq_getElem (l := b) (i := i) (by rw [hb.1]; exact hi)
    have b1 := ha.2 _ (List.mem_of_getElem? e1)
    have b2 := hb.2 _ (List.mem_of_getElem? e2)
    by_cases hz : b[i]'(by rw [hb.1]; exact hi) = a[i]'(by rw [ha.1]; exact hi)
    · rw [e1, e2, hz]
    · exact absurd ⟨i, _, _, e2, e1, by rcases b2 with z | z <;> omega, by rcases b1 with z | z <;> omega, hz⟩ hn
  · rw [List.getElem?_eq_none (by rw [ha.1]; omega), List.getElem?_eq_none (by rw [hb.1]; omega)]
theorem cl_spread {w : Nat} {ps : List Nat} {a b : Tx} (hn : ps.Nodup) (hp : ∀ p ∈ ps, p < w) (ha : a.length = ps.length) (h : Cl a b) : Cl (spreadL a ps (List.replicate w 45)) (spreadL b ps (List.replicate w 45)) := by
  obtain ⟨i, x, y, e1, e2, n⟩ := h
  have hi := (List.getElem?_eq_some_iff.mp e1).1
  have hb : ∀ p ∈ ps, p < (List.replicate w 45).length := fun p h => by rw [List.length_replicate]; exact hp p h
  have ei := List.getElem?_eq_getElem (l := ps) (i := i) (by omega)
  exact ⟨_, x, y, spread_get hn hb ei e1, spread_get hn hb ei e2, n⟩
/-- how many letters have a choice of G at the places -/
theorem cnt_spread {w : Nat} {ps : List Nat} {G : List Tx} (hn : ps.Nodup) (hp : ∀ p ∈ ps, p < w) (hG : G.Nodup) (hl : ∀ c ∈ G, Ltr ps.length c) : (cnt w (fun l => atS ps l ∈ G) : Int) = G.length * 2 ^ (w - ps.length) := by
  have e : cnt w (fun l => atS ps l ∈ G) = cnt w (fun l => ∃ r ∈ G.map (fun c => spreadL c ps (List.replicate w 45)), Hold r l) := cnt_congr fun l h => by
    constructor
    · intro hm
      refine ⟨_, List.mem_map_of_mem hm, (hold_spread hn hp (atS_len _ _) h).mpr ?_⟩
      rintro ⟨i, x, y, e1, e2, n⟩
      rw [e1] at e2
      exact n.2.2 (Option.some.inj e2)
    · rintro ⟨r, hr, hh⟩
      obtain ⟨c, hc, rfl⟩ := List.mem_map.mp hr
      have := (hold_spread hn hp (hl c hc).1 h).mp hh
      have ee : c = atS ps l := Classical.byContradiction fun z => this (ltr_ne (atS_ltr hp h) (hl c hc) fun y => z y.symm)
      rw [← ee]
      exact hc
  rw [e, ← sum_cnt, List.map_map]
  · have : ∀ (L : List Tx), (∀ c ∈ L, Ltr ps.length c) → (L.map (sizeI ∘ fun c => spreadL c ps (List.replicate w 45))).sum = L.length * 2 ^ (w - ps.length) := fun L => by
      induction L with
      | nil => intro _; simp
      | cons a L ih =>
        intro h
        rw [List.map_cons, List.sum_cons, ih fun c hc => h c (List.mem_cons_of_mem _ hc), List.length_cons]
        show sizeI (spreadL a ps (List.replicate w 45)) + _ = _
        rw [size_spread hn hp (h a List.mem_cons_self)]
        push_cast
        rw [Int.add_mul]
        omega
    exact this G hl
  · intro r hr
    obtain ⟨c, hc, rfl⟩ := List.mem_map.mp hr
    exact spread_row hn hp (hl c hc).row (dash_row w)
  · refine List.pairwise_map.mpr ?_
    refine List.Pairwise.imp_of_mem ?_ hG
    intro a b ha hb hab
    exact cl_spread hn hp (hl b hb).1 (ltr_ne (hl a ha) (hl b hb) hab)
/-- what a heap's rows apart are due -/
structure Just (w : Nat) (ps : List Nat) (G : List Tx) (out : List Tx) : Prop where
  row : ∀ r ∈ out, Row w r
  bad : ∀ r ∈ out, ∀ c, Ltr ps.length c → c ∉ G → Cl (atS ps r) c
  apart : out.Pairwise fun a b => Cl b a
  few : out.length ≤ 2 ^ ps.length
  sum : (out.map sizeI).sum = G.length * 2 ^ (w - ps.length)
  ltr : ∀ c ∈ G, Ltr ps.length c
theorem good_in {m : Nat} {ss : List Tx} {c : Tx} (h : Ltr m c) : c ∈ (choicesL m).filter (fitsAny ss) ↔ ∃ s ∈ ss, ¬ Cl s c := by
  rw [List.mem_filter, fitsAny_iff]
  exact ⟨fun z => z.2, fun z => ⟨choices_all h, z⟩⟩
/-- a letter lies in the heap just where its signs at the places are good -/
theorem heap_in {w : Nat} {ps : List Nat} {ss : List Tx} {l : Tx} (hn : ps.Nodup) (hp : ∀ p ∈ ps, p < w) (hs : ∀ s ∈ ss, Row ps.length s) (hl : Ltr w l) : (∃ r ∈ ss.map (fun s => spreadL s ps (List.replicate w 45)), Hold r l) ↔ ∃ s ∈ ss, ¬ Cl s (atS ps l) := by
  constructor
  · rintro ⟨r, hr, h⟩
    obtain ⟨s, hs', rfl⟩ := List.mem_map.mp hr
    exact ⟨s, hs', (hold_spread hn hp (hs s hs').1 hl).mp h⟩
  · rintro ⟨s, hs', h⟩
    exact ⟨_, List.mem_map_of_mem hs', (hold_spread hn hp (hs s hs').1 hl).mpr h⟩
theorem Pcs.just {w : Nat} {ps : List Nat} {G out : List Tx} {S : Tx → Prop} (hn : ps.Nodup) (hp : ∀ p ∈ ps, p < w) (hG : G.Nodup) (hGl : ∀ c ∈ G, Ltr ps.length c) (P : Pcs w ps S out) (hS : ∀ l, Ltr w l → (S l ↔ atS ps l ∈ G)) : Just w ps G out := by
  refine ⟨P.row, fun r hr c hc hcn => Classical.byContradiction fun hcl => hcn ?_, P.apart, P.few, ?_, hGl⟩
  · have zl : Ltr w (List.replicate w 48) := ⟨List.length_replicate, fun x hx => .inl (List.eq_of_mem_replicate hx)⟩
    have hl := spread_ltr hn hp hc zl
    have ha := atS_spread (b := List.replicate w 48) hn hp hc.1 zl.1
    have hh : Hold r (spreadL c ps (List.replicate w 48)) := fun j a b e1 e2 => by
      by_cases h1 : a = 45
      · exact .inl h1
      · have hm := P.tell r hr j a e1 h1
        obtain ⟨i, hi, ei⟩ := List.getElem_of_mem hm
        have ei' : ps[i]? = some j := by rw [List.getElem?_eq_getElem hi, ei]
        have ec := List.getElem?_eq_getElem (l := c) (i := i) (by rw [hc.1]; exact hi)
        have := spread_get (b := List.replicate w 48) hn (fun p h => by rw [zl.1]; exact hp p h) ei' ec
        rw [this] at e2
        have eb := Option.some.inj e2
        have hb := hc.2 _ (List.mem_of_getElem? ec)
        by_cases h2 : a = b
        · exact .inr h2
        · exact absurd ⟨i, a, _, by rw [atS_get ei', getD_of e1], ec, h1, by rcases hb with z | z <;> omega, fun z => h2 (z.trans eb)⟩ hcl
    have := (hS _ hl).mp ((P.cov _ hl).mp ⟨r, hr, hh⟩)
    rw [ha] at this
    exact this
  · rw [sum_cnt P.row P.apart, ← cnt_spread hn hp hG hGl]
    congr 1
    exact cnt_congr fun l hl => (P.cov l hl).trans (hS l hl)
end En

set_option Elab.async false
set_option linter.all false
set_option maxRecDepth 100000
set_option maxHeartbeats 4000000
namespace En
open PySem L2

theorem eqv_tx (a b : Tx) : PyData.eqv (tx a) (tx b) = decide (a = b) := by
  rw [Bool.eq_iff_iff, decide_eq_true_iff, ← tx_inj]
  simp [tx, PyData.eqv]
theorem in_txs (c : Tx) (L : List Tx) : inO (tx c) (.list (L.map tx)) = some (decide (c ∈ L)) := by
  have e : (sc (tx c) && (L.map tx).all sc) = true := by simp [sc, tx]
  show (if (sc (tx c) && (L.map tx).all sc) = true then some ((L.map tx).any fun y => PyData.eqv y (tx c)) else _) = _
  rw [if_pos e]
  congr 1
  rw [List.any_map, Bool.eq_iff_iff]
  simp [eqv_tx]
theorem dashes {n : Nat} (h : n ≤ 1000) : semBin .Mult (tx [45]) (.int (n : Int)) = some (false, tx (List.replicate n 45)) := by
  rw [mul_tx (sz _ (by simp; omega)) (by omega)]
  congr 3
  induction n with
  | zero => rfl
  | succ n ih => rw [List.replicate_succ, List.replicate_succ, List.flatten_cons, ih (by omega)]; rfl
theorem bad_nil {w : Nat} {G : List Tx} (L : List Tx) (hL : ∀ r ∈ L, Row w r) : eqO (.list (L.map tx)) (.list []) = some (decide (L = [])) := by
  rw [eq_nil fun d hd => by obtain ⟨r, hr, rfl⟩ := List.mem_map.mp hd; exact flat_row (hL r hr)]
  simp
namespace M
def just : MF := ⟨10, (.cons (.ife (.bop false (.cons (.not_ (.isi (.v 0) "list")) (.cons (.cmp .NotEq (.lc (.n 5) (.e (.v 0)) (.so (.not_ (.call "_law_is_row" (.cons (.v 5) (.cons (.v 1) .nil))))) (.v 5)) (.lst .nil)) .nil))) (.cons (.ret (.kb false)) .nil) .nil) (.cons (.set 4 (.lc (.n 8) (.e (.call "_law_choices" (.cons (.bi "len" (.cons (.v 2) .nil)) .nil))) (.so (.cmp .NotIn (.v 8) (.v 3))) (.v 8)) false) (.cons (.for_ (.n 5) (.e (.v 0)) (.cons (.set 6 (.mt (.ks "") "join" (.cons (.lc (.n 9) (.e (.v 2)) .no (.ix (.v 5) (.v 9))) .nil)) false) (.cons (.ife (.cmp .NotEq (.lc (.n 8) (.e (.v 4)) (.so (.call "_law_fits" (.cons (.v 6) (.cons (.v 8) .nil)))) (.v 8)) (.lst .nil)) (.cons (.ret (.kb false)) .nil) .nil) .nil))) (.cons (.set 7 (.call "_law_size" (.cons (.bin .Mult (.ks "-") (.bin .Sub (.v 1) (.bi "len" (.cons (.v 2) .nil)))) .nil)) false) (.cons (.ret (.bop true (.cons (.call "_law_apart" (.cons (.v 0) .nil)) (.cons (.cmp .Eq (.bi "sum" (.cons (.lc (.n 5) (.e (.v 0)) .no (.call "_law_size" (.cons (.v 5) .nil))) .nil)) (.bin .Mult (.bi "len" (.cons (.v 3) .nil)) (.v 7))) .nil)))) .nil)))))⟩
end M
end En

set_option Elab.async false
set_option linter.all false
set_option maxRecDepth 100000
set_option maxHeartbeats 4000000
namespace En
open PySem L2

theorem ans_imms {b m : Bool} {ds : List D} (h : imms ds = true) : ans b (.ow m (.list ds)) = .ok (.ow false (.list ds)) := by
  cases b <;> cases m <;> simp [ans, h]
@[simp] theorem ans_txs (b m : Bool) (l : List Tx) : ans b (.ow m (.list (l.map tx))) = .ok (.ow false (.list (l.map tx))) := ans_imms (imms_tx l)
@[simp] theorem ans_nats (b m : Bool) (l : List Nat) : ans b (.ow m (.list (l.map fun (p : Nat) => PyData.int (p : Int)))) = .ok (.ow false (.list (l.map fun (p : Nat) => PyData.int (p : Int)))) := ans_imms (by induction l with | nil => simp | cons a l ih => simp [ih])
@[simp] theorem ans_ints (b m : Bool) (l : List Int) : ans b (.ow m (.list (l.map PyData.int))) = .ok (.ow false (.list (l.map PyData.int))) := ans_imms (by induction l with | nil => simp | cons a l ih => simp [ih])
theorem sem_list (ds : List D) : semBi "list" ds = s_list ds := by
  unfold semBi
  rw [if_neg (by decide), if_pos rfl]
@[simp] theorem bi_list_l (l : List D) : semBi "list" [.list l] = some (true, .list l) := sem_list _
@[simp] theorem bi_list_t (l : List D) : semBi "list" [.tuple l] = some (true, .list l) := sem_list _
theorem cut_map {α β : Type} (f : α → β) (l : List α) (a b : Option Int) : cutL (l.map f) a b = (cutL l a b).map f := by
  unfold cutL
  rw [List.length_map, List.map_take, List.map_drop]
theorem cut_le {α : Type} (l : List α) (a b : Option Int) : (cutL l a b).length ≤ l.length := by
  unfold cutL
  rw [List.length_take, List.length_drop]
  omega
theorem sp_row {w : Nat} {ps : List Nat} (pn : ps.Nodup) (pw : ∀ p ∈ ps, p < w) {ss : List Tx} (hs : ∀ s ∈ ss, Row ps.length s) : ∀ r ∈ ss.map (fun s => spreadL s ps (List.replicate w 45)), Row w r := fun r hr => by
  obtain ⟨s, hs', rfl⟩ := List.mem_map.mp hr
  exact spread_row pn pw (hs s hs') (dash_row w)
theorem nodup_lt {ps : List Nat} {w : Nat} (pn : ps.Nodup) (pw : ∀ p ∈ ps, p < w) : ps.length ≤ w := by
  have := nodup_le pn (m := List.range w) fun p hp => List.mem_range.mpr (pw p hp)
  rwa [List.length_range] at this
theorem good_few {m : Nat} (hm : m ≤ 8) (ss : List Tx) : ((choicesL m).filter (fitsAny ss)).length ≤ 256 := by
  have a1 := List.length_filter_le (fitsAny ss) (choicesL m)
  have a2 := choices_len m
  have a3 : 2 ^ m ≤ 2 ^ 8 := Nat.pow_le_pow_right (by decide) hm
  omega
theorem not_cl (r : Tx) : ¬ Cl r r := by
  rintro ⟨i, x, y, e1, e2, _, _, n⟩
  rw [e1] at e2
  exact n (Option.some.inj e2)
/-- signs by a comprehension over numbers -/
theorem lc_bits {X : Str → Prop} {f : D → R (Option (Bool × D))} {l : List Int} {K : Bool × List D → Prop} (hf : ∀ x ∈ l, RS (fun _ => False) (f (.int x)) fun o => ∃ c, Bt c ∧ o = some (false, tx [c])) (q : ∀ b : Tx, Ltr l.length b → K (false, b.map fun c => tx [c])) : RS X (lcR f (l.map PyData.int)) K := by
  refine rs_lc (fun i m L => m = false ∧ ∃ b : Tx, L = (b.map fun c => tx [c]) ∧ b.length = i ∧ ∀ c ∈ b, Bt c) ⟨rfl, [], rfl, rfl, by simp⟩ (fun i d m L hd' h => ?_) (fun m L h => ?_)
  · obtain ⟨rfl, b, rfl, hl, hb⟩ := h
    obtain ⟨hi, rfl⟩ := map_at hd'
    refine rs_imp (rs_x (hf _ (List.getElem_mem hi)) fun _ => False.elim) ?_
    rintro _ ⟨c, hc, rfl⟩
    exact ⟨rfl, b ++ [c], by simp, by simp [hl], M.mem_app hb hc⟩
  · obtain ⟨rfl, b, rfl, hl, hb⟩ := h
    rw [List.length_map] at hl
    exact q b ⟨hl, hb⟩
end En

set_option Elab.async false
set_option linter.all false
set_option maxRecDepth 100000
set_option maxHeartbeats 4000000
namespace En
open PySem PySem.Spec PyProof.Rows L2

/-! ### a def of one parameter that tells a text with a sign replaced -/
section
variable {P : Program} {w : World} {K : PySem.W.Frag} {mg : Str → Option Value} {base : Heap}
end
end En

set_option Elab.async false
set_option linter.all false
set_option maxRecDepth 100000
set_option maxHeartbeats 4000000
namespace En
open PySem L2

/-! ### rules -/
abbrev Ru := Tx × Tx × Tx
def rl (r : Ru) : D := .tuple [tx r.1, tx r.2.1, tx r.2.2]
def passT : Tx := [112, 97, 115, 115]
def dropT : Tx := [100, 114, 111, 112]
@[simp] theorem lit_pass : (PyData.str (Str.ofString "pass") : D) = tx passT := (rfl)
@[simp] theorem lit_drop : (PyData.str (Str.ofString "drop") : D) = tx dropT := (rfl)
@[simp] theorem pass_ne : ¬ passT = dropT := by decide
@[simp] theorem imm_rl (r : Ru) : imm (rl r) = true := by simp [rl]
@[simp] theorem imms_rl (l : List Ru) : imms (l.map rl) = true := by
  induction l with
  | nil => simp
  | cons a l ih => simp [ih]
@[simp] theorem ans_rls (b m : Bool) (l : List Ru) : ans b (.ow m (.list (l.map rl))) = .ok (.ow false (.list (l.map rl))) := ans_imms (imms_rl l)
@[simp] theorem isi_int_i (i : Int) : semIsi (.int i) "int" = some true := by
  unfold semIsi
  rw [if_neg (by decide), if_neg (by decide), if_pos rfl]
@[simp] theorem isi_bool_i (i : Int) : semIsi (.int i) "bool" = some false := isi_bool _
@[simp] theorem isi_tup_t (l : List D) : semIsi (.tuple l) "tuple" = some true := by
  unfold semIsi
  rw [if_neg (by decide), if_neg (by decide), if_neg (by decide), if_neg (by decide), if_pos rfl]
namespace M
def SpreadAt (Γ : FT) : Prop := ∃ Γ' n, Γ "_law_spread" = some (3, fun ds => runF Γ' n spread ds)
def rules : MF := ⟨7, (.cons (.set 2 (.lst .nil) true) (.cons (.for_ (.n 3) (.e (.v 0)) (.cons (.unp [4, 5] (.call "_law_shorts" (.cons (.lst (.cons (.bin .FloorDiv (.v 3) (.ki 4)) (.cons (.bin .Mod (.bin .Mult (.bin .FloorDiv (.v 3) (.ki 4)) (.ki 69621)) (.ki 1000003)) .nil))) (.cons (.v 1) .nil)))) (.cons (.set 6 (.ks "pass") false) (.cons (.ife (.cmp .Eq (.bin .Mod (.v 3) (.ki 4)) (.ki 0)) (.cons (.set 6 (.ks "drop") false) .nil) .nil) (.cons (.ife (.cmp .Eq (.bin .Mod (.v 3) (.ki 4)) (.ki 1)) (.cons (.set 5 (.bin .Mult (.ks "-") (.v 1)) false) .nil) .nil) (.cons (.ife (.cmp .Eq (.bin .Mod (.v 3) (.ki 4)) (.ki 2)) (.cons (.set 5 (.v 4) false) .nil) .nil) (.cons (.app 2 (.tup (.cons (.v 4) (.cons (.v 6) (.cons (.v 5) .nil))))) .nil))))))) (.cons (.reto 2) .nil)))⟩
def base : MF := ⟨3, (.cons (.ret (.mt (.ks "") "join" (.cons (.lc (.n 2) (.e (.call "_law_stream" (.cons (.v 0) (.cons (.v 1) .nil)))) .no (.ix (.ks "01") (.bin .Mod (.bin .FloorDiv (.v 2) (.ki 4)) (.ki 2)))) .nil))) .nil)⟩
theorem base_ok {Γ : FT} {n : Nat} {X : Str → Prop} {K : Rv → Prop} (hs : StreamAt Γ) (c : Int) (w : Nat) (hw : w ≤ 1000) (q : ∀ b : Tx, Ltr w b → K (.fr false (tx b))) : RS X (runF Γ n base [.int c, .int (w : Int)]) K := by
  obtain ⟨Γ1, n1, e1⟩ := hs
  refine rs_run ?_
  simp [base, startE, e_call e1]
  refine stream_okN (Γ := Γ1) c w hw fun l hl _ => ?_
  simp
  refine lc_bits (fun x hx => ?_) fun b hb => ?_
  · obtain ⟨c, hc, e⟩ := ix_01 (x / 4 % 2) (by omega) (by omega)
    simp [lcT, En.mod_int, En.div_int, e]
    exact ⟨c, hc, rfl⟩
  rw [hl] at hb
  refine ⟨sz _ (by omega), ?_⟩
  simp [M.join_sg (l := b) (by have := hb.1; omega)]
  exact q b hb
def whole : MF := ⟨1, (.cons (.ret (.bop true (.cons (.isi (.v 0) "int") (.cons (.not_ (.isi (.v 0) "bool")) .nil)))) .nil)⟩
end M
end En

set_option Elab.async false
set_option linter.all false
set_option maxRecDepth 100000
set_option maxHeartbeats 4000000
namespace En
open PySem L2

@[simp] theorem mk_rl (m : Bool) (r : Ru) : mk m false (rl r) = .fr m (rl r) := mk_tup _ _
namespace M
def lawWritten : MF := ⟨4, (.cons (.ret (.mt (.ks "") "join" (.cons (.lc (.t [2, 3]) (.zip (.v 0) (.v 1)) .no (.ix (.lst (.cons (.v 2) (.cons (.v 3) .nil))) (.bi "int" (.cons (.cmp .NotEq (.v 3) (.ks "-")) .nil)))) .nil))) .nil)⟩
theorem lawWritten_ok {Γ : FT} {n : Nat} {X : Str → Prop} {K : Rv → Prop} (a o : Tx) (ha : a.length ≤ 1000) (q : K (.fr false (tx (wr a o)))) : RS X (runF Γ n lawWritten [tx a, tx o]) K := by
  refine rs_run ?_
  simp [lawWritten, startE]
  refine rs_lc (fun i m L => m = false ∧ L = ((wr a o).take i).map fun c => tx [c]) ⟨rfl, rfl⟩ (fun i d m L hd' h => ?_) (fun m L h => ?_)
  · obtain ⟨rfl, rfl⟩ := h
    obtain ⟨hi, hj, rfl⟩ := zip_at hd'
    have g := take_get (wr_get hi hj)
    have pk0 : ∀ x y : D, semIx (.list [x, y]) (.int 0) = some x := fun x y => ix_list (i := 0) rfl
    have pk1 : ∀ x y : D, semIx (.list [x, y]) (.int 1) = some y := fun x y => ix_list (i := 1) rfl
    simp [lcT, sz 2 (by decide)]
    by_cases hz : o[i] = 45
    · rw [if_pos hz] at g
      simp [hz, pk0]
      rw [← List.map_take, ← List.map_take, g, List.map_append]
      rfl
    · rw [if_neg hz] at g
      simp [hz, pk1]
      rw [← List.map_take, ← List.map_take, g, List.map_append]
      rfl
  · obtain ⟨rfl, rfl⟩ := h
    have hl := wr_len a o
    rw [List.take_of_length_le (by rw [hl, List.length_zipWith]; exact Nat.le_refl _)]
    refine ⟨sz _ (by omega), ?_⟩
    simp [M.join_sg (l := wr a o) (by omega)]
    exact q
end M
end En

set_option Elab.async false
set_option linter.all false
set_option maxRecDepth 100000
set_option maxHeartbeats 4000000
namespace En
open PySem L2

/-- so deep at most -/
def Nc (k : Nat) (d : D) : Prop := d.canLay0 = true ∧ d.depth ≤ k
theorem Nc.shp {k : Nat} {d : D} (h : Nc k d) (hk : k ≤ 64) : shp d = true := by
  show (d.canLay0 && decide (d.depth ≤ 64)) = true
  rw [h.1, Bool.true_and, decide_eq_true_iff]
  exact Nat.le_trans h.2 hk
theorem nc_all {k : Nat} : ∀ {l : List D}, (∀ d ∈ l, Nc k d) → PyData.canLayAll0 l = true ∧ PyData.depthAll l ≤ k
  | [], _ => ⟨by simp [PyData.canLayAll0], by simp [PyData.depthAll]⟩
  | d :: l, h => by
    have a := nc_all fun e he => h e (List.mem_cons_of_mem _ he)
    have b := h d List.mem_cons_self
    refine ⟨by simp [PyData.canLayAll0, a.1, b.1], ?_⟩
    have := a.2
    have := b.2
    simp only [PyData.depthAll]
    omega
theorem nc_list {k : Nat} {l : List D} (h : ∀ d ∈ l, Nc k d) : Nc (k + 1) (.list l) := by
  have a := nc_all h
  refine ⟨by simp [PyData.canLay0, a.1], ?_⟩
  have := a.2
  simp only [PyData.depth]
  omega
theorem nc_tup {k : Nat} {l : List D} (h : ∀ d ∈ l, Nc k d) : Nc (k + 1) (.tuple l) := by
  have a := nc_all h
  refine ⟨by simp [PyData.canLay0, a.1], ?_⟩
  have := a.2
  simp only [PyData.depth]
  omega
theorem Flat.nc {d : D} (h : Flat d) : Nc 0 d := ⟨h.1, by rw [h.2]; exact Nat.le_refl _⟩
theorem wr_spread {w : Nat} {ps : List Nat} (pn : ps.Nodup) (pw : ∀ p ∈ ps, p < w) {c o b : Tx} (hc : c.length = ps.length) (ho : o.length = ps.length) (hb : b.length = w) : wr (spreadL c ps b) (spreadL o ps (List.replicate w 45)) = spreadL (wr c o) ps b := by
  have l1 : (spreadL c ps b).length = w := by rw [spread_len, hb]
  have l2 : (spreadL o ps (List.replicate w 45)).length = w := by rw [spread_len, List.length_replicate]
  have pb : ∀ p ∈ ps, p < b.length := fun p h => by rw [hb]; exact pw p h
  have pd : ∀ p ∈ ps, p < (List.replicate w 45).length := fun p h => by rw [List.length_replicate]; exact pw p h
  apply List.ext_getElem?
  intro q
  by_cases hq : q < w
  · rw [wr_get (by omega) (by omega)]
    have e1 := List.getElem?_eq_getElem (l := spreadL c ps b) (i := q) (by omega)
    have e2 := List.getElem?_eq_getElem (l := spreadL o ps (List.replicate w 45)) (i := q) (by omega)
    by_cases hm : q ∈ ps
    · obtain ⟨i, hi, ei⟩ := List.getElem_of_mem hm
      have ei' : ps[i]? = some q := by rw [List.getElem?_eq_getElem hi, ei]
      have gc := List.getElem?_eq_getElem (l := c) (i := i) (by omega)
      have go := List.getElem?_eq_getElem (l := o) (i := i) (by omega)
      have a1 := spread_get pn pb ei' gc
      have a2 := spread_get pn pd ei' go
      rw [a1] at e1
      rw [a2] at e2
      rw [← Option.some.inj e1, ← Option.some.inj e2]
      exact (spread_get pn pb ei' (wr_get (by omega) (by omega))).symm
    · rw [spread_other hm] at e1 e2
      rw [spread_other hm, e1]
      have h45 : (spreadL o ps (List.replicate w 45))[q]'(by omega) = 45 := List.eq_of_mem_replicate (List.mem_of_getElem? e2)
      rw [if_pos h45]
  · rw [List.getElem?_eq_none (by rw [wr_len]; omega), List.getElem?_eq_none (by rw [spread_len]; omega)]
namespace M
end M
end En

set_option Elab.async false
set_option linter.all false
set_option maxRecDepth 100000
set_option maxHeartbeats 4000000
namespace En
open PySem L2

/-- a part with the number of its rule -/
def sh (p : Tx × Nat) : D := .tuple [tx p.1, .int (p.2 : Int)]
@[simp] theorem imm_sh (p : Tx × Nat) : imm (sh p) = true := by simp [sh]
@[simp] theorem imms_sh (l : List (Tx × Nat)) : imms (l.map sh) = true := by
  induction l with
  | nil => simp
  | cons a l ih => simp [ih]
@[simp] theorem ans_shs (b m : Bool) (l : List (Tx × Nat)) : ans b (.ow m (.list (l.map sh))) = .ok (.ow false (.list (l.map sh))) := ans_imms (imms_sh l)
namespace M
end M
end En

set_option Elab.async false
set_option linter.all false
set_option maxRecDepth 100000
set_option maxHeartbeats 4000000
namespace En
open PySem L2

@[simp] theorem mk_sh (m : Bool) (p : Tx × Nat) : mk m false (sh p) = .fr m (sh p) := mk_tup _ _
@[simp] theorem isi_tup_sh (p : Tx × Nat) : semIsi (sh p) "tuple" = some true := isi_tup_t _
@[simp] theorem len_sh (p : Tx × Nat) : s_len [sh p] = some (false, .int 2) := (rfl)
namespace M
end M
end En

set_option Elab.async false
set_option linter.all false
set_option maxRecDepth 100000
set_option maxHeartbeats 4000000
namespace En
open PySem L2

namespace M
end M
end En

set_option Elab.async false
set_option linter.all false
set_option maxRecDepth 100000
set_option maxHeartbeats 4000000
namespace En
open PySem L2

/-! ### a text cut behind some statements -/
namespace M
end M
end En

set_option Elab.async false
set_option linter.all false
set_option maxRecDepth 100000
set_option maxHeartbeats 4000000
namespace En
open PySem L2

/-! ### ways -/
def Sm (l : Tx) : Prop := ∀ c ∈ l, c < 1114112
abbrev Wy := Tx × Tx
def wy (p : Wy) : D := .tuple [tx p.1, tx p.2]
@[simp] theorem imm_wy (p : Wy) : imm (wy p) = true := by simp [wy]
@[simp] theorem imms_wy (l : List Wy) : imms (l.map wy) = true := by
  induction l with
  | nil => simp
  | cons a l ih => simp [ih]
@[simp] theorem ans_wys (b m : Bool) (l : List Wy) : ans b (.ow m (.list (l.map wy))) = .ok (.ow false (.list (l.map wy))) := ans_imms (imms_wy l)
@[simp] theorem mk_wy (m : Bool) (p : Wy) : mk m false (wy p) = .fr m (wy p) := mk_tup _ _
theorem nc_sm {l : Tx} (h : Sm l) : Nc 0 (tx l) := (flat_tx h).nc
namespace M
end M
end En

set_option Elab.async false
set_option linter.all false
set_option maxRecDepth 100000
set_option maxHeartbeats 4000000
namespace En
open PySem L2

def abcT : Tx := [97, 98, 99, 100, 101, 102, 103, 104, 105, 106, 107, 108, 109, 110, 111, 112, 113, 114, 115, 116, 117, 118, 119, 120, 121, 122]
@[simp] theorem lit_abc : (PyData.str (Str.ofString "abcdefghijklmnopqrstuvwxyz") : D) = tx abcT := (rfl)
namespace M
def names : MF := ⟨7, (.cons (.set 2 (.ks "abcdefghijklmnopqrstuvwxyz") false) (.cons (.set 3 (.mt (.ks "") "join" (.cons (.lc (.n 5) (.e (.call "_law_stream" (.cons (.bin .FloorDiv (.v 0) (.ki 3)) (.cons (.ki 8) .nil)))) .no (.ix (.v 2) (.bin .Mod (.v 5) (.ki 26)))) .nil)) false) (.cons (.ife (.bop true (.cons (.cmp .Eq (.bin .Mod (.v 0) (.ki 3)) (.ki 1)) (.cons (.cmp .LtE (.v 1) (.ki 8)) .nil))) (.cons (.ret (.lc (.n 6) (.r1 (.v 1)) .no (.sl (.v 3) .no (.so (.bin .Add (.v 6) (.ki 1)))))) .nil) .nil) (.cons (.set 3 (.sl (.v 3) .no (.so (.bin .Add (.ki 1) (.bin .Mod (.bin .FloorDiv (.v 0) (.ki 3)) (.ki 8))))) false) (.cons (.set 4 (.bin .Mod (.bin .FloorDiv (.v 0) (.ki 24)) (.bi "len" (.cons (.v 3) .nil))) false) (.cons (.ret (.lc (.n 6) (.r1 (.v 1)) .no (.bin .Add (.bin .Add (.sl (.v 3) .no (.so (.v 4))) (.ix (.v 2) (.bin .Mod (.bin .Add (.bin .FloorDiv (.v 0) (.ki 3)) (.bin .Mult (.ki 7) (.v 6))) (.ki 26)))) (.sl (.v 3) (.so (.bin .Add (.v 4) (.ki 1))) .no)))) .nil))))))⟩
def ways : MF := ⟨10, (.cons (.set 3 (.lst .nil) true) (.cons (.set 4 (.lst .nil) true) (.cons (.for_ (.n 5) (.e (.v 0)) (.cons (.set 6 (.bin .Mod (.v 5) (.bin .Add (.v 1) (.ki 1))) false) (.cons (.set 7 (.mt (.ks "") "join" (.cons (.lc (.n 9) (.e (.call "_law_stream" (.cons (.bin .Mod (.bin .FloorDiv (.v 5) (.ki 49)) (.ki 3)) (.cons (.v 6) .nil)))) .no (.ix (.ks "01") (.bin .Mod (.bin .FloorDiv (.v 9) (.ki 8)) (.ki 2)))) .nil)) false) (.cons (.ife (.bop true (.cons (.cmp .Gt (.v 6) (.ki 0)) (.cons (.cmp .Gt (.bin .Mod (.bin .FloorDiv (.v 5) (.ki 147)) (.ki 3)) (.ki 0)) .nil))) (.cons (.set 8 (.bin .Mod (.bin .FloorDiv (.v 5) (.ki 441)) (.v 6)) false) (.cons (.set 7 (.bin .Add (.bin .Add (.sl (.v 7) .no (.so (.v 8))) (.ix (.ks "10") (.bi "int" (.cons (.ix (.v 7) (.v 8)) .nil)))) (.sl (.v 7) (.so (.bin .Add (.v 8) (.ki 1))) .no)) false) .nil)) .nil) (.cons (.ife (.cmp .NotIn (.v 7) (.v 4)) (.cons (.app 4 (.v 7)) (.cons (.app 3 (.tup (.cons (.v 7) (.cons (.ix (.v 2) (.bin .Mod (.bin .FloorDiv (.v 5) (.ki 7)) (.bi "len" (.cons (.v 2) .nil)))) .nil)))) .nil)) .nil) .nil))))) (.cons (.reto 3) .nil))))⟩
end M
end En

set_option Elab.async false
set_option linter.all false
set_option maxRecDepth 100000
set_option maxHeartbeats 4000000
namespace En
open PySem L2

/-! ### a rule that is needed -/
namespace M
end M
end En

set_option Elab.async false
set_option linter.all false
set_option maxRecDepth 100000
set_option maxHeartbeats 4000000
namespace En
open PySem L2

def ro : Option Ru → D
  | some r => rl r
  | none => .none
@[simp] theorem is_rl (r : Ru) : isO (rl r) .none = some false := (rfl)
namespace M
end M
end En

set_option Elab.async false
set_option linter.all false
set_option maxRecDepth 100000
set_option maxHeartbeats 4000000
namespace En
open PySem L2

/-! ### deeds side by side -/
theorem spread_self {w : Nat} {ps : List Nat} (pn : ps.Nodup) (pw : ∀ p ∈ ps, p < w) {l : Tx} (hl : l.length = w) : spreadL (atS ps l) ps l = l := by
  apply List.ext_getElem?
  intro q
  by_cases hm : q ∈ ps
  · obtain ⟨i, hi, ei⟩ := List.getElem_of_mem hm
    have ei' : ps[i]? = some q := by rw [List.getElem?_eq_getElem hi, ei]
    have hq : q < l.length := by rw [hl]; exact pw q hm
    have := List.getElem?_eq_getElem hq
    rw [spread_get pn (fun p h => by rw [hl]; exact pw p h) ei' (atS_get ei'), getD_of this, this]
  · rw [spread_other hm]
namespace M
def back : MF := ⟨7, (.cons (.set 4 (.lst .nil) true) (.cons (.set 5 (.ki 0) false) (.cons (.for_ (.n 6) (.e (.v 3)) (.cons (.whl (.bop true (.cons (.cmp .Lt (.v 5) (.bi "len" (.cons (.v 0) .nil))) (.cons (.cmp .NotEq (.ix (.v 0) (.v 5)) (.v 6)) .nil))) (.cons (.set 5 (.bin .Add (.v 5) (.ki 1)) false) .nil)) (.cons (.ife (.bop false (.cons (.cmp .Eq (.v 5) (.bi "len" (.cons (.v 0) .nil))) (.cons (.not_ (.isi (.v 6) "tuple")) .nil))) (.cons (.ret .kn) .nil) .nil) (.cons (.app 4 (.ix (.v 1) (.v 5))) (.cons (.set 5 (.bin .Add (.v 5) (.ki 1)) false) .nil))))) (.cons (.reto 4) .nil))))⟩
def deeds : MF := ⟨3, (.cons (.ret (.lc (.n 2) (.e (.v 1)) .no (.call "_law_deed" (.cons (.v 0) (.cons (.v 2) .nil))))) .nil)⟩
end M
end En

set_option Elab.async false
set_option linter.all false
set_option maxRecDepth 100000
set_option maxHeartbeats 4000000
namespace En
open PySem L2

/-! ### the door of signs -/
theorem nodup_erase {ws : List Wy} (hn : (ws.map (·.1)).Nodup) (n : Nat) : ((ws.eraseIdx n).map (·.1)).Nodup := (List.eraseIdx_sublist ws n).map (·.1) |>.nodup hn
/-! ### rows of beginnings -/
/-- well-formed ways -/
def WysOk (b : Nat) (ws : List Wy) : Prop := (ws.map (·.1)).Nodup ∧ ∀ v ∈ ws, Ltr v.1.length v.1 ∧ v.1.length ≤ b ∧ Sm v.2
theorem WysOk.erase {b : Nat} {ws : List Wy} (h : WysOk b ws) (n : Nat) : WysOk b (ws.eraseIdx n) := ⟨nodup_erase h.1 n, fun v hv => h.2 v ((List.eraseIdx_sublist ws n).subset hv)⟩
namespace M
end M
end En

set_option Elab.async false
set_option linter.all false
set_option maxRecDepth 100000
set_option maxHeartbeats 4000000
namespace En
open PySem L2

@[simp] theorem isi_tup_wy (p : Wy) : semIsi (wy p) "tuple" = some true := isi_tup_t _
/-! ### doors side by side -/
namespace M
end M
end En

set_option Elab.async false
set_option linter.all false
set_option maxRecDepth 100000
set_option maxHeartbeats 4000000
namespace En
open PySem L2

namespace M
end M
end En

set_option Elab.async false
set_option linter.all false
set_option maxRecDepth 100000
set_option maxHeartbeats 8000000
namespace En
open PySem PySem.Spec PyProof.Rows L2

/-! ### texts with a sign replaced, anywhere: a token is out -/
section
variable {X : Cx} {T name id : String} {r : V → List V → Hp → VK → Prop} {o e : Expr} {es : List Expr} {to : TE} {t : TA} {apos cpos : Pos}
end
section
variable {Γ : FT} {k fuel : Nat} {ex : Ex}
end
section
variable {Γ : FT} {k fuel : Nat} {ex : Ex}
end
section
variable {P : Program} {w : World} {K : PySem.W.Frag} {mg : Str → Option Value} {base : Heap}
end
end En

set_option Elab.async false
set_option linter.all false
set_option maxRecDepth 100000
set_option maxHeartbeats 4000000
namespace En
open PySem L2

namespace M
end M
end En

set_option Elab.async false
set_option linter.all false
set_option maxRecDepth 100000
set_option maxHeartbeats 4000000
namespace En
open PySem L2

/-- no text -/
abbrev NoTx (d : D) : Prop := semIsi d "str" = some false
namespace M
def due : MF := ⟨4, (.cons (.ife (.bop false (.cons (.not_ (.isi (.v 0) "str")) (.cons (.cmp .NotEq (.bi "len" (.cons (.v 0) .nil)) (.v 1)) .nil))) (.cons (.ret (.kb false)) .nil) .nil) (.cons (.ret (.cmp .Eq (.lc (.n 3) (.e (.v 0)) (.so (.cmp .NotIn (.v 3) (.v 2))) (.v 3)) (.lst .nil))) .nil))⟩
end M
end En

set_option Elab.async false
set_option linter.all false
set_option maxRecDepth 100000
set_option maxHeartbeats 4000000
namespace En
open PySem L2

/-- the ways, longer ones first -/
structure Srt (ws us : List Wy) : Prop where
  perm : us.Perm ws
  le : us.Pairwise fun a b => b.1.length ≤ a.1.length
/-- a part with its door -/
def shw (p : Tx × D) : D := .tuple [tx p.1, p.2]
namespace M
end M
end En

set_option Elab.async false
set_option linter.all false
set_option maxRecDepth 100000
set_option maxHeartbeats 4000000
namespace En
open PySem L2

@[simp] theorem shw0 (p : Tx × D) : semIx (shw p) (.int 0) = some (tx p.1) := ix_tup (i := 0) rfl
@[simp] theorem shw1 (p : Tx × D) : semIx (shw p) (.int 1) = some p.2 := ix_tup (i := 1) rfl
@[simp] theorem isi_tup_shw (p : Tx × D) : semIsi (shw p) "tuple" = some true := isi_tup_t _
@[simp] theorem len_shw (p : Tx × D) : s_len [shw p] = some (false, .int 2) := (rfl)
namespace M
end M
end En

set_option Elab.async false
set_option linter.all false
set_option maxRecDepth 100000
set_option maxHeartbeats 4000000
namespace En
open PySem PySem.Spec PyProof.Rows L2

/-! ### refusals: what is raised, what is caught -/
section
variable {P : Program} {w : World} {K : PySem.W.Frag} {mg : Str → Option Value} {base : Heap}
theorem all_cons {p : Str → Prop} {y : Str} {l : List Str} (h : p y) (r : ∀ x, x ∈ l → p x) : ∀ x, x ∈ y :: l → p x := fun x hx => by
  rcases List.mem_cons.mp hx with rfl | hx
  · exact h
  · exact r x hx
end
/-! ### the run's laws -/
section
variable {α β : Type} {Γ : FT} {fuel : Nat} {env : List Sl}
def movR (o : Option Sl) (i j : Nat) (env : List Sl) : Fl := match o with
  | some (.ow m d) => if i < env.length ∧ i ≠ j then .next ((env.set i (.ow m d)).set j .no) else .bad
  | _ => .bad
@[simp] theorem movR_ow (m : Bool) (d : D) (i j : Nat) : movR (some (.ow m d)) i j env = if i < env.length ∧ i ≠ j then .next ((env.set i (.ow m d)).set j .no) else .bad := (rfl)
@[simp] theorem s_mov (i j : Nat) : evS Γ fuel (.mov i j) env = movR env[j]? i j env := by rw [evS]; rfl
@[simp] theorem s_try (b : TB) (tb : List (Str × List (Nat × Str))) (n : Nat) (sx : List XSt) : evS Γ fuel (.try_ b tb n sx) env = tryR tb n env (evT Γ b env) := by rw [evS]
def tryE (o : Option (List (Nat × Str))) (n : Nat) (env : List Sl) : Fl := match o with
  | some l => if n < env.length then .next ((setZ l (env.set n .no)).set n .no) else .bad
  | none => .bad
@[simp] theorem tryE_some (l : List (Nat × Str)) (n : Nat) : tryE (some l) n env = if n < env.length then .next ((setZ l (env.set n .no)).set n .no) else .bad := (rfl)
@[simp] theorem tryR_next (tb : List (Str × List (Nat × Str))) (n : Nat) (e : List Sl) : tryR tb n env (.next e) = .next e := (rfl)
@[simp] theorem tryR_err (tb : List (Str × List (Nat × Str))) (n : Nat) (x : Str) : tryR tb n env (.err x) = tryE (tb.lookup x) n env := by unfold tryR tryE; rfl
@[simp] theorem tryR_ite (tb : List (Str × List (Nat × Str))) (n : Nat) (c : Prop) [Decidable c] (a b : Fl) : tryR tb n env (if c then a else b) = if c then tryR tb n env a else tryR tb n env b := by split <;> rfl
@[simp] theorem setZ_nil : setZ [] env = env := (rfl)
@[simp] theorem setZ_cons (p : Nat × Str) (l : List (Nat × Str)) : setZ (p :: l) env = setZ l (env.set p.1 (.fr false (.str p.2))) := (rfl)
@[simp] theorem t_ex (f : Str) (es : MEs) : evT Γ (.ex f es) env = .of (callR Γ env f es) fun _ => .next env := (rfl)
@[simp] theorem t_st (i : Nat) (own : Bool) (f : Str) (es : MEs) : evT Γ (.st i own f es) env = .of (callR Γ env f es) (put1 own i env) := (rfl)
@[simp] theorem t_if (c : ME) (a b : TB) : evT Γ (.if_ c a b) env = .of (noErr ((evE Γ env c).bind truth)) fun t => ifR t (evT Γ a env) (evT Γ b env) := by
  rw [evT]
  rfl
end
end En

set_option Elab.async false
set_option linter.all false
set_option maxRecDepth 100000
set_option maxHeartbeats 4000000
namespace En
open PySem L2

/-! ### layouts -/
abbrev Fd := Tx × Nat
def fl (p : Fd) : D := .tuple [tx p.1, .int (p.2 : Int)]
@[simp] theorem imm_fl (p : Fd) : imm (fl p) = true := by simp [fl]
@[simp] theorem imms_fl (l : List Fd) : imms (l.map fl) = true := by
  induction l with
  | nil => rfl
  | cons p l ih => simp [imms, ih]
@[simp] theorem lit_right : (PyData.str (Str.ofString "right") : D) = tx [114, 105, 103, 104, 116] := (rfl)
@[simp] theorem lit_none : (PyData.str (Str.ofString "none") : D) = tx [110, 111, 110, 101] := (rfl)
namespace M
def sizes : MF := ⟨5, (.cons (.ife (.cmp .Eq (.bin .Mod (.v 0) (.ki 4)) (.ki 1)) (.cons (.set 2 (.lc (.n 3) (.r1 (.v 1)) .no (.ki 1)) true) (.cons (.put 2 (.bin .Mod (.bin .FloorDiv (.v 0) (.ki 4)) (.v 1)) (.bin .Add (.ki 1) (.bin .Mod (.bin .FloorDiv (.v 0) (.ki 32)) (.ki 40)))) (.cons (.reto 2) .nil))) .nil) (.cons (.ret (.lc (.n 4) (.e (.call "_law_stream" (.cons (.v 0) (.cons (.v 1) .nil)))) .no (.bin .Add (.ki 1) (.bin .Mod (.v 4) (.ki 6))))) .nil))⟩
end M
end En

set_option Elab.async false
set_option linter.all false
set_option maxRecDepth 100000
set_option maxHeartbeats 4000000
namespace En
open PySem PySem.Spec PyProof.Rows L2

/-! ### a def that is given a list to keep: its first parameter is its own -/
def er (H : Hp) (a : Addr) : Hp := fun b => if b = a then none else H b
theorem dts_imms {H : Hp} {L L' : AS} : ∀ (ds : List D) (vs : List V), imms ds = true → Dts H L vs ds → Dts H L' vs ds
  | [], _, _, h => by cases h; exact .nil
  | d :: ds, _, n, h => by
    simp only [imms, Bool.and_eq_true] at n
    cases h with
    | cons h1 h2 => exact .cons (Dt.imm d _ n.1 h1) (dts_imms ds _ n.2 h2)
section
variable {P : Program} {w : World} {K : PySem.W.Frag} {mg : Str → Option Value} {base : Heap}
/-! ### f(g(x), y): f keeps what g tells -/
end
end En

set_option Elab.async false
set_option linter.all false
set_option maxRecDepth 100000
set_option maxHeartbeats 4000000
namespace En
open PySem L2

namespace M
end M
end En

set_option Elab.async false
set_option linter.all false
set_option maxRecDepth 100000
set_option maxHeartbeats 4000000
namespace En
open PySem L2

/-! ### rows by fields: parts, each a name and a thing -/
@[simp] theorem e_dK0 {Γ : FT} {env : List Sl} : evE Γ env .dK0 = .ok (.ow false (.dict [])) := by rw [evE]
/-- a thing: a text, or none -/
def Th (d : D) : Prop := (∃ r, d = tx r ∧ r.length ≤ 1000 ∧ Sm r) ∨ (NoTx d ∧ Nc 1 d)
theorem Th.nc {d : D} (h : Th d) : Nc 1 d := by
  rcases h with ⟨r, rfl, _, h⟩ | ⟨_, h⟩
  · exact ⟨(nc_sm h).1, Nat.le_trans (nc_sm h).2 (by decide)⟩
  · exact h
abbrev Pt := Tx × D
def pt (p : Pt) : D := .tuple [tx p.1, p.2]
abbrev Sn := List (Tx × Tx)
namespace M
@[simp] theorem mk_fl (f : Fd) : mk true false (fl f) = .fr true (fl f) := by simp [mk, fl, sc]
@[simp] theorem lit_field : (PyData.str (Str.ofString "field") : D) = tx [102, 105, 101, 108, 100] := (rfl)
@[simp] theorem lit_twice : (PyData.str (Str.ofString "twice") : D) = tx [116, 119, 105, 99, 101] := (rfl)
@[simp] theorem lit_misfit : (PyData.str (Str.ofString "misfit") : D) = tx [109, 105, 115, 102, 105, 116] := (rfl)
end M
end En

set_option Elab.async false
set_option linter.all false
set_option maxRecDepth 100000
set_option maxHeartbeats 4000000
namespace En
open PySem L2

namespace M
end M
end En

set_option Elab.async false
set_option linter.all false
set_option maxRecDepth 100000
set_option maxHeartbeats 4000000
namespace En
open PySem L2

/-! ### graphs of choices: one for each set of letters -/
abbrev Nd := Nat × Nat × Nat
/-- a node's number; what is written down behind -/
def nodeN (ns : List Nd) (p a b : Nat) : Nat × List Nd := if a = b then (a, ns) else match ns.findIdx? (fun z => decide (z = (p, a, b))) with
  | some i => (i + 2, ns)
  | none => (ns.length + 2, ns ++ [(p, a, b)])
theorem find_pre {ns more : List Nd} {z : Nd} {i : Nat} (h : ns.findIdx? (fun y => decide (y = z)) = some i) : (ns ++ more).findIdx? (fun y => decide (y = z)) = some i := by
  rw [List.findIdx?_append, h]
  rfl
theorem find_new {ns more : List Nd} {z : Nd} (h : ns.findIdx? (fun y => decide (y = z)) = none) : (ns ++ [z] ++ more).findIdx? (fun y => decide (y = z)) = some ns.length := by
  rw [List.append_assoc, List.findIdx?_append, h]
  simp [List.findIdx?_cons]
open Classical in
/-- what is told of a set of letters behind a place -/
noncomputable def canon : Nat → Nat → (Tx → Prop) → List Nd → Nat × List Nd
  | 0, _, f, ns => (if f [] then 1 else 0, ns)
  | n + 1, p, f, ns => nodeN (canon n (p + 1) (fun l => f (49 :: l)) (canon n (p + 1) (fun l => f (48 :: l)) ns).2).2 p (canon n (p + 1) (fun l => f (48 :: l)) ns).1 (canon n (p + 1) (fun l => f (49 :: l)) (canon n (p + 1) (fun l => f (48 :: l)) ns).2).1
theorem node_pre (ns : List Nd) (p a b : Nat) : ∃ more, (nodeN ns p a b).2 = ns ++ more := by
  unfold nodeN
  split
  · exact ⟨[], by simp⟩
  · split
    · exact ⟨[], by simp⟩
    · exact ⟨_, rfl⟩
theorem node_again {ns : List Nd} {p a b : Nat} (more : List Nd) : nodeN ((nodeN ns p a b).2 ++ more) p a b = ((nodeN ns p a b).1, (nodeN ns p a b).2 ++ more) := by
  unfold nodeN
  split
  · rfl
  · cases e : ns.findIdx? fun z => decide (z = (p, a, b)) with
    | some i =>
      simp only
      rw [find_pre e]
    | none =>
      simp only
      rw [find_new e]
theorem canon_pre : ∀ (n p : Nat) (f : Tx → Prop) (ns : List Nd), ∃ more, (canon n p f ns).2 = ns ++ more
  | 0, p, f, ns => ⟨[], by simp [canon]⟩
  | n + 1, p, f, ns => by
    obtain ⟨m1, h1⟩ := canon_pre n (p + 1) (fun l => f (48 :: l)) ns
    obtain ⟨m2, h2⟩ := canon_pre n (p + 1) (fun l => f (49 :: l)) (canon n (p + 1) (fun l => f (48 :: l)) ns).2
    obtain ⟨m3, h3⟩ := node_pre (canon n (p + 1) (fun l => f (49 :: l)) (canon n (p + 1) (fun l => f (48 :: l)) ns).2).2 p (canon n (p + 1) (fun l => f (48 :: l)) ns).1 (canon n (p + 1) (fun l => f (49 :: l)) (canon n (p + 1) (fun l => f (48 :: l)) ns).2).1
    exact ⟨m1 ++ m2 ++ m3, by rw [canon, h3, h2, h1]; simp⟩
/-- told again, nothing more is written -/
theorem canon_again : ∀ (n p : Nat) (f : Tx → Prop) (ns more : List Nd), canon n p f ((canon n p f ns).2 ++ more) = ((canon n p f ns).1, (canon n p f ns).2 ++ more)
  | 0, p, f, ns, more => by simp [canon]
  | n + 1, p, f, ns, more => by
    obtain ⟨m2, h2⟩ := canon_pre n (p + 1) (fun l => f (49 :: l)) (canon n (p + 1) (fun l => f (48 :: l)) ns).2
    obtain ⟨m3, h3⟩ := node_pre (canon n (p + 1) (fun l => f (49 :: l)) (canon n (p + 1) (fun l => f (48 :: l)) ns).2).2 p (canon n (p + 1) (fun l => f (48 :: l)) ns).1 (canon n (p + 1) (fun l => f (49 :: l)) (canon n (p + 1) (fun l => f (48 :: l)) ns).2).1
    have a1 := canon_again n (p + 1) (fun l => f (48 :: l)) ns (m2 ++ m3 ++ more)
    have a2 := canon_again n (p + 1) (fun l => f (49 :: l)) (canon n (p + 1) (fun l => f (48 :: l)) ns).2 (m3 ++ more)
    have a3 := node_again (ns := (canon n (p + 1) (fun l => f (49 :: l)) (canon n (p + 1) (fun l => f (48 :: l)) ns).2).2) (p := p) (a := (canon n (p + 1) (fun l => f (48 :: l)) ns).1) (b := (canon n (p + 1) (fun l => f (49 :: l)) (canon n (p + 1) (fun l => f (48 :: l)) ns).2).1) more
    have e1 : (canon (n + 1) p f ns).2 ++ more = (canon n (p + 1) (fun l => f (48 :: l)) ns).2 ++ (m2 ++ m3 ++ more) := by
      rw [canon, h3, h2]; simp
    have e2 : (canon n (p + 1) (fun l => f (48 :: l)) ns).2 ++ (m2 ++ m3 ++ more) = (canon n (p + 1) (fun l => f (49 :: l)) (canon n (p + 1) (fun l => f (48 :: l)) ns).2).2 ++ (m3 ++ more) := by
      rw [h2]; simp
    have e3 : (canon n (p + 1) (fun l => f (49 :: l)) (canon n (p + 1) (fun l => f (48 :: l)) ns).2).2 ++ (m3 ++ more) = (nodeN (canon n (p + 1) (fun l => f (49 :: l)) (canon n (p + 1) (fun l => f (48 :: l)) ns).2).2 p (canon n (p + 1) (fun l => f (48 :: l)) ns).1 (canon n (p + 1) (fun l => f (49 :: l)) (canon n (p + 1) (fun l => f (48 :: l)) ns).2).1).2 ++ more := by
      rw [h3]; simp
    rw [e1]
    conv => lhs; rw [canon]
    rw [a1]
    dsimp only
    rw [e2, a2]
    dsimp only
    rw [e3, a3]
    rw [canon]
theorem canon_ext : ∀ {n p : Nat} {f g : Tx → Prop} {ns : List Nd}, (∀ l, l.length = n → (∀ c ∈ l, Bt c) → (f l ↔ g l)) → canon n p f ns = canon n p g ns
  | 0, p, f, g, ns, h => by
    have := h [] rfl (by simp)
    rw [canon, canon]
    by_cases hg : g []
    · rw [if_pos hg, if_pos (this.mpr hg)]
    · rw [if_neg hg, if_neg fun z => hg (this.mp z)]
  | n + 1, p, f, g, ns, h => by
    have e1 : canon n (p + 1) (fun l => f (48 :: l)) ns = canon n (p + 1) (fun l => g (48 :: l)) ns := canon_ext fun l hl hc => h (48 :: l) (by simp [hl]) (by
      intro c hc'
      rcases List.mem_cons.mp hc' with rfl | hc'
      · exact .inl rfl
      · exact hc c hc')
    have e2 : ∀ ns, canon n (p + 1) (fun l => f (49 :: l)) ns = canon n (p + 1) (fun l => g (49 :: l)) ns := fun ns => canon_ext fun l hl hc => h (49 :: l) (by simp [hl]) (by
      intro c hc'
      rcases List.mem_cons.mp hc' with rfl | hc'
      · exact .inr rfl
      · exact hc c hc')
    rw [canon, canon, e1, e2]
theorem node_same (ns : List Nd) (p a : Nat) : nodeN ns p a a = (a, ns) := by
  unfold nodeN
  rw [if_pos rfl]
/-- a place that does not matter -/
theorem canon_skip {n p : Nat} {f : Tx → Prop} {ns : List Nd} (h : ∀ l, l.length = n → (∀ c ∈ l, Bt c) → (f (48 :: l) ↔ f (49 :: l))) : canon (n + 1) p f ns = canon n (p + 1) (fun l => f (48 :: l)) ns := by
  have e : ∀ ns, canon n (p + 1) (fun l => f (49 :: l)) ns = canon n (p + 1) (fun l => f (48 :: l)) ns := fun ns => (canon_ext h).symm
  have a := canon_again n (p + 1) (fun l => f (48 :: l)) ns []
  rw [List.append_nil] at a
  rw [canon, e, a]
  exact node_same _ _ _
theorem canon_no : ∀ {n p : Nat} {f : Tx → Prop} {ns : List Nd}, (∀ l, l.length = n → (∀ c ∈ l, Bt c) → ¬ f l) → canon n p f ns = (0, ns)
  | 0, p, f, ns, h => by simp [canon, h [] rfl (by simp)]
  | n + 1, p, f, ns, h => by
    have h0 : ∀ l, l.length = n → (∀ c ∈ l, Bt c) → ¬ f (48 :: l) := fun l hl hc => h _ (by simp [hl]) (by
      intro c hc'
      rcases List.mem_cons.mp hc' with rfl | hc'
      · exact .inl rfl
      · exact hc c hc')
    have h1 : ∀ l, l.length = n → (∀ c ∈ l, Bt c) → ¬ f (49 :: l) := fun l hl hc => h _ (by simp [hl]) (by
      intro c hc'
      rcases List.mem_cons.mp hc' with rfl | hc'
      · exact .inr rfl
      · exact hc c hc')
    rw [canon_skip fun l hl hc => ⟨fun z => absurd z (h0 l hl hc), fun z => absurd z (h1 l hl hc)⟩, canon_no h0]
theorem canon_yes : ∀ {n p : Nat} {f : Tx → Prop} {ns : List Nd}, (∀ l, l.length = n → (∀ c ∈ l, Bt c) → f l) → canon n p f ns = (1, ns)
  | 0, p, f, ns, h => by simp [canon, h [] rfl (by simp)]
  | n + 1, p, f, ns, h => by
    have h0 : ∀ l, l.length = n → (∀ c ∈ l, Bt c) → f (48 :: l) := fun l hl hc => h _ (by simp [hl]) (by
      intro c hc'
      rcases List.mem_cons.mp hc' with rfl | hc'
      · exact .inl rfl
      · exact hc c hc')
    have h1 : ∀ l, l.length = n → (∀ c ∈ l, Bt c) → f (49 :: l) := fun l hl hc => h _ (by simp [hl]) (by
      intro c hc'
      rcases List.mem_cons.mp hc' with rfl | hc'
      · exact .inr rfl
      · exact hc c hc')
    rw [canon_skip fun l hl hc => ⟨fun _ => h1 l hl hc, fun _ => h0 l hl hc⟩, canon_yes h0]
/-! a letter's way through -/
inductive Ev (ns : List Nd) (l : Tx) : Nat → Bool → Prop
  | no : Ev ns l 0 false
  | yes : Ev ns l 1 true
  | node {k p a b : Nat} {v : Bool} : ns[k]? = some (p, a, b) → (l[p]? = some 49 → Ev ns l b v) → (l[p]? ≠ some 49 → Ev ns l a v) → Ev ns l (k + 2) v
theorem Ev.det {ns : List Nd} {l : Tx} {k : Nat} {v u : Bool} (h : Ev ns l k v) (h2 : Ev ns l k u) : v = u := by
  induction h with
  | no => cases h2; rfl
  | yes => cases h2; rfl
  | @node k p a b v e h1 h0 i1 i0 =>
    cases h2 with
    | @node _ p' a' b' _ e' h1' h0' =>
      rw [e] at e'
      cases e'
      by_cases hl : l[p]? = some 49
      · exact i1 hl (h1' hl)
      · exact i0 hl (h0' hl)
theorem node_at {ns : List Nd} {p a b : Nat} (h : a ≠ b) : ∃ k, (nodeN ns p a b).1 = k + 2 ∧ (nodeN ns p a b).2[k]? = some (p, a, b) := by
  unfold nodeN
  rw [if_neg h]
  cases e : ns.findIdx? fun z => decide (z = (p, a, b)) with
  | some i =>
    obtain ⟨hi, h1, _⟩ := List.findIdx?_eq_some_iff_getElem.mp e
    refine ⟨i, rfl, ?_⟩
    simp only [decide_eq_true_eq] at h1
    rw [List.getElem?_eq_getElem hi, h1]
  | none => exact ⟨ns.length, rfl, by simp⟩
theorem get_pre {α : Type} {ns more : List α} {k : Nat} {z : α} (h : ns[k]? = some z) : (ns ++ more)[k]? = some z := by
  rw [List.getElem?_append_left (List.getElem?_eq_some_iff.mp h).1]
  exact h
open Classical in
theorem canon_ev : ∀ (n p : Nat) (f : Tx → Prop) (ns more : List Nd) (l : Tx), l.length = p + n → (∀ c ∈ l, Bt c) → Ev ((canon n p f ns).2 ++ more) l (canon n p f ns).1 (decide (f (l.drop p)))
  | 0, p, f, ns, more, l, hl, hc => by
    have e : l.drop p = [] := List.drop_of_length_le (by omega)
    rw [e]
    simp only [canon]
    by_cases h : f []
    · rw [if_pos h, decide_eq_true h]; exact .yes
    · rw [if_neg h, decide_eq_false h]; exact .no
  | n + 1, p, f, ns, more, l, hl, hc => by
    have hp : p < l.length := by omega
    have ed : l.drop p = l[p] :: l.drop (p + 1) := List.drop_eq_getElem_cons hp
    obtain ⟨m2, h2⟩ := canon_pre n (p + 1) (fun l => f (49 :: l)) (canon n (p + 1) (fun l => f (48 :: l)) ns).2
    have na := @node_at (canon n (p + 1) (fun l => f (49 :: l)) (canon n (p + 1) (fun l => f (48 :: l)) ns).2).2 p (canon n (p + 1) (fun l => f (48 :: l)) ns).1 (canon n (p + 1) (fun l => f (49 :: l)) (canon n (p + 1) (fun l => f (48 :: l)) ns).2).1
    obtain ⟨m3, h3⟩ := node_pre (canon n (p + 1) (fun l => f (49 :: l)) (canon n (p + 1) (fun l => f (48 :: l)) ns).2).2 p (canon n (p + 1) (fun l => f (48 :: l)) ns).1 (canon n (p + 1) (fun l => f (49 :: l)) (canon n (p + 1) (fun l => f (48 :: l)) ns).2).1
    have i0 := canon_ev n (p + 1) (fun l => f (48 :: l)) ns (m2 ++ m3 ++ more) l (by omega) hc
    have i1 := canon_ev n (p + 1) (fun l => f (49 :: l)) (canon n (p + 1) (fun l => f (48 :: l)) ns).2 (m3 ++ more) l (by omega) hc
    have e0 : (canon n (p + 1) (fun l => f (48 :: l)) ns).2 ++ (m2 ++ m3 ++ more) = (nodeN (canon n (p + 1) (fun l => f (49 :: l)) (canon n (p + 1) (fun l => f (48 :: l)) ns).2).2 p (canon n (p + 1) (fun l => f (48 :: l)) ns).1 (canon n (p + 1) (fun l => f (49 :: l)) (canon n (p + 1) (fun l => f (48 :: l)) ns).2).1).2 ++ more := by
      rw [h3, h2]; simp
    have e1 : (canon n (p + 1) (fun l => f (49 :: l)) (canon n (p + 1) (fun l => f (48 :: l)) ns).2).2 ++ (m3 ++ more) = (nodeN (canon n (p + 1) (fun l => f (49 :: l)) (canon n (p + 1) (fun l => f (48 :: l)) ns).2).2 p (canon n (p + 1) (fun l => f (48 :: l)) ns).1 (canon n (p + 1) (fun l => f (49 :: l)) (canon n (p + 1) (fun l => f (48 :: l)) ns).2).1).2 ++ more := by
      rw [h3]; simp
    rw [e0] at i0
    rw [e1] at i1
    rw [canon, ed]
    generalize (canon n (p + 1) (fun l => f (49 :: l)) (canon n (p + 1) (fun l => f (48 :: l)) ns).2).2 = N at *
    generalize (canon n (p + 1) (fun l => f (48 :: l)) ns).1 = a at *
    generalize (canon n (p + 1) (fun l => f (49 :: l)) (canon n (p + 1) (fun l => f (48 :: l)) ns).2).1 = b at *
    have hb := hc _ (List.getElem_mem hp)
    have hg : l[p]? = some l[p] := List.getElem?_eq_getElem hp
    generalize l[p] = c at *
    by_cases hab : a = b
    · subst hab
      rw [node_same] at *
      rcases hb with rfl | rfl
      · exact i0
      · exact i1
    · obtain ⟨k, e, hk⟩ := na hab
      rw [e]
      refine .node (get_pre hk) (fun h => ?_) fun h => ?_
      · rw [hg] at h
        cases h
        exact i1
      · rcases hb with rfl | rfl
        · exact i0
        · exact absurd hg h
/-! ### as it is reckoned -/
/-- the first place from one on that a row tells -/
def nextT (r : Tx) (p : Nat) : Nat := p + ((r.drop p).takeWhile fun c => decide (c = 45)).length
def setR (rows : List Tx) (p : Nat) (l : Tx) : Prop := ∃ r ∈ rows, Hold (r.drop p) l
theorem hold_cons {a c : Nat} {r l : Tx} : Hold (a :: r) (c :: l) ↔ (a = 45 ∨ a = c) ∧ Hold r l := by
  constructor
  · intro h
    exact ⟨h 0 a c rfl rfl, fun i x y e1 e2 => h (i + 1) x y (by simpa using e1) (by simpa using e2)⟩
  · rintro ⟨h0, h⟩ i x y e1 e2
    cases i with
    | zero => simp at e1 e2; subst e1 e2; exact h0
    | succ i => exact h i x y (by simpa using e1) (by simpa using e2)
theorem setR_cons {w p c : Nat} {rows : List Tx} {l : Tx} (hr : ∀ r ∈ rows, Row w r) (hp : p < w) : setR rows p (c :: l) ↔ ∃ r ∈ rows, (r[p]? = some 45 ∨ r[p]? = some c) ∧ Hold (r.drop (p + 1)) l := by
  unfold setR
  refine exists_congr fun r => and_congr_right fun h => ?_
  have hl := (hr r h).1
  rw [List.drop_eq_getElem_cons (by omega), hold_cons, List.getElem?_eq_getElem (by omega)]
  simp
/-- no row tells the place -/
theorem setR_skip {w p n : Nat} {rows : List Tx} {ns : List Nd} (hr : ∀ r ∈ rows, Row w r) (hp : p + (n + 1) = w) (h : ∀ r ∈ rows, r[p]? = some 45) : canon (n + 1) p (setR rows p) ns = canon n (p + 1) (setR rows (p + 1)) ns := by
  have e : ∀ c l, setR rows p (c :: l) ↔ setR rows (p + 1) l := fun c l => by
    rw [setR_cons hr (by omega)]
    unfold setR
    exact exists_congr fun r => and_congr_right fun hm => ⟨fun z => z.2, fun z => ⟨.inl (h r hm), z⟩⟩
  rw [canon_skip fun l _ _ => (e 48 l).trans (e 49 l).symm]
  exact canon_ext fun l _ _ => e 48 l
/-- at a place told: the rows that go on by no, by yes -/
theorem setR_split {w p n : Nat} {rows : List Tx} {ns : List Nd} (hr : ∀ r ∈ rows, Row w r) (hp : p + (n + 1) = w) :
    canon (n + 1) p (setR rows p) ns = nodeN (canon n (p + 1) (setR (rows.filter fun r => decide (r[p]? ≠ some 48)) (p + 1)) (canon n (p + 1) (setR (rows.filter fun r => decide (r[p]? ≠ some 49)) (p + 1)) ns).2).2 p
      (canon n (p + 1) (setR (rows.filter fun r => decide (r[p]? ≠ some 49)) (p + 1)) ns).1 (canon n (p + 1) (setR (rows.filter fun r => decide (r[p]? ≠ some 48)) (p + 1)) (canon n (p + 1) (setR (rows.filter fun r => decide (r[p]? ≠ some 49)) (p + 1)) ns).2).1 := by
  have sg : ∀ r ∈ rows, r[p]? = some 48 ∨ r[p]? = some 49 ∨ r[p]? = some 45 := fun r h => by
    have hR := hr r h
    have hl := hR.1
    have hi : p < r.length := by omega
    have := hR.2 _ (List.getElem_mem hi)
    rw [List.getElem?_eq_getElem hi]
    rcases this with e | e | e <;> rw [e] <;> simp
  have e0 : ∀ l, setR rows p (48 :: l) ↔ setR (rows.filter fun r => decide (r[p]? ≠ some 49)) (p + 1) l := fun l => by
    rw [setR_cons hr (by omega)]
    unfold setR
    constructor
    · rintro ⟨r, h, h1, h2⟩
      exact ⟨r, List.mem_filter.mpr ⟨h, by rcases h1 with e | e <;> rw [e] <;> simp⟩, h2⟩
    · rintro ⟨r, h, h2⟩
      obtain ⟨h, h1⟩ := List.mem_filter.mp h
      simp only [ne_eq, decide_eq_true_eq] at h1
      refine ⟨r, h, ?_, h2⟩
      rcases sg r h with e | e | e
      · exact .inr e
      · exact absurd e h1
      · exact .inl e
  have e1 : ∀ l, setR rows p (49 :: l) ↔ setR (rows.filter fun r => decide (r[p]? ≠ some 48)) (p + 1) l := fun l => by
    rw [setR_cons hr (by omega)]
    unfold setR
    constructor
    · rintro ⟨r, h, h1, h2⟩
      exact ⟨r, List.mem_filter.mpr ⟨h, by rcases h1 with e | e <;> rw [e] <;> simp⟩, h2⟩
    · rintro ⟨r, h, h2⟩
      obtain ⟨h, h1⟩ := List.mem_filter.mp h
      simp only [ne_eq, decide_eq_true_eq] at h1
      refine ⟨r, h, ?_, h2⟩
      rcases sg r h with e | e | e
      · exact absurd e h1
      · exact .inr e
      · exact .inl e
  have c0 := canon_ext (n := n) (p := p + 1) (f := fun l => setR rows p (48 :: l)) (g := setR (rows.filter fun r => decide (r[p]? ≠ some 49)) (p + 1)) (ns := ns) fun l _ _ => e0 l
  have c1 := fun ns => canon_ext (n := n) (p := p + 1) (f := fun l => setR rows p (49 :: l)) (g := setR (rows.filter fun r => decide (r[p]? ≠ some 48)) (p + 1)) (ns := ns) fun l _ _ => e1 l
  rw [canon, c0, c1]
theorem next_ge (r : Tx) (p : Nat) : p ≤ nextT r p := by unfold nextT; omega
theorem next_le {r : Tx} {p : Nat} (h : p ≤ r.length) : nextT r p ≤ r.length := by
  unfold nextT
  have := (List.takeWhile_prefix (l := r.drop p) fun c => decide (c = 45)).length_le
  rw [List.length_drop] at this
  omega
theorem next_dash {r : Tx} {p i : Nat} (h1 : p ≤ i) (h2 : i < nextT r p) : r[i]? = some 45 := by
  unfold nextT at h2
  have hm : ∀ c ∈ (r.drop p).takeWhile (fun c => decide (c = 45)), c = 45 := fun c hc => by
    have := List.all_eq_true.mp (List.all_takeWhile (p := fun c => decide (c = 45)) (l := r.drop p)) c hc
    simpa using this
  have e : (r.drop p)[i - p]? = ((r.drop p).takeWhile fun c => decide (c = 45))[i - p]? := by
    have := List.takeWhile_append_dropWhile (p := fun c => decide (c = 45)) (l := r.drop p)
    conv => lhs; rw [← this]
    rw [List.getElem?_append_left (by omega)]
  rw [List.getElem?_drop] at e
  rw [show p + (i - p) = i by omega] at e
  rw [e, List.getElem?_eq_getElem (by omega)]
  congr 1
  exact hm _ (List.getElem_mem _)
/-- rows looked at from a place on: the first place that one tells -/
theorem setR_to {w : Nat} {rows : List Tx} (hr : ∀ r ∈ rows, Row w r) : ∀ (k p : Nat) (ns : List Nd), p + k ≤ w → (∀ r ∈ rows, ∀ i, p ≤ i → i < p + k → r[i]? = some 45) → canon (w - p) p (setR rows p) ns = canon (w - (p + k)) (p + k) (setR rows (p + k)) ns
  | 0, p, ns, _, _ => rfl
  | k + 1, p, ns, h, hd => by
    obtain ⟨n, hn⟩ : ∃ n, w - p = n + 1 := ⟨w - p - 1, by omega⟩
    rw [hn, setR_skip hr (by omega) fun r hm => hd r hm p (Nat.le_refl _) (by omega)]
    have := setR_to hr k (p + 1) ns (by omega) fun r hm i h1 h2 => hd r hm i (by omega) (by omega)
    rw [show w - (p + 1) = n by omega] at this
    rw [this, show p + 1 + k = p + (k + 1) by omega]
/-- a row that tells nothing more -/
theorem setR_all {w p : Nat} {rows : List Tx} {ns : List Nd} (hp : p ≤ w) {r : Tx} (hm : r ∈ rows) (hl : r.length = w) (h : nextT r p = w) : canon (w - p) p (setR rows p) ns = (1, ns) :=
  canon_yes fun l h1 h2 => ⟨r, hm, fun i a b e1 _ => .inl (by
    rw [List.getElem?_drop] at e1
    have := (List.getElem?_eq_some_iff.mp e1).1
    have d := next_dash (r := r) (p := p) (i := p + i) (by omega) (by omega)
    rw [d] at e1
    cases e1
    rfl)⟩
end En

set_option Elab.async false
set_option linter.all false
set_option maxRecDepth 100000
set_option maxHeartbeats 4000000
namespace En
open PySem PySem.Spec PyProof.Rows L2

/-! ### node_of, step by step: nodes and numbers are its caller's -/
def kNd (z : Nd) : List Key := [.inl (z.1 : Int), .inl (z.2.1 : Int), .inl (z.2.2 : Int)]
theorem kNd_inj {z y : Nd} (h : kNd z = kNd y) : z = y := by
  obtain ⟨a, b, c⟩ := z
  obtain ⟨a', b', c'⟩ := y
  unfold kNd at h
  simp only [List.cons.injEq, Sum.inl.injEq, and_true] at h
  obtain ⟨h1, h2, h3⟩ := h
  rw [Int.ofNat_inj.mp h1, Int.ofNat_inj.mp h2, Int.ofNat_inj.mp h3]
def entN (k : Nat) : List Nd → List (List Key × V)
  | [] => []
  | z :: l => (kNd z, .int ((k : Int) + 2)) :: entN (k + 1) l
theorem entN_len : ∀ (l : List Nd) (k : Nat), (entN k l).length = l.length
  | [], _ => rfl
  | _ :: l, k => by rw [entN, List.length_cons, List.length_cons, entN_len l]
theorem entN_app : ∀ (l : List Nd) (k : Nat) (z : Nd), entN k (l ++ [z]) = entN k l ++ [(kNd z, .int (((k + l.length : Nat) : Int) + 2))]
  | [], k, z => by simp [entN]
  | y :: l, k, z => by
    rw [List.cons_append, entN, entN, entN_app l]
    simp only [List.cons_append, List.length_cons]
    rw [show k + 1 + l.length = k + (l.length + 1) by omega]
theorem entN_val : ∀ (l : List Nd) (k : Nat) (z : Nd), valV (entN k l) (kNd z) = (l.findIdx? fun y => decide (y = z)).map fun i => V.int (((k + i : Nat) : Int) + 2)
  | [], _, _ => rfl
  | y :: l, k, z => by
    rw [entN, List.findIdx?_cons]
    by_cases h : y = z
    · subst h
      rw [valV_pos rfl]
      simp
    · rw [valV_neg fun e => h (kNd_inj e), entN_val l (k + 1) z]
      simp only [h, decide_false, Bool.false_eq_true, if_false, Option.map_map]
      congr 1
      funext i
      show V.int (((k + 1 + i : Nat) : Int) + 2) = V.int (((k + (i + 1) : Nat) : Int) + 2)
      rw [show k + 1 + i = k + (i + 1) by omega]
def NdsAt (H : Hp) (cs : List Addr) (ns : List Nd) : Prop := cs.length = ns.length ∧ ∀ (i : Nat) (c : Addr) (z : Nd), cs[i]? = some c → ns[i]? = some z → H c = some (.tup ((kNd z).map kV))
structure Made (H : Hp) (t a b : Addr) (ns : List Nd) : Prop where
  tup : H t = some (.tup [.ref a, .ref b])
  lst : ∃ cs : List Addr, H a = some (.lst (cs.map V.ref)) ∧ NdsAt H cs ns
  dct : H b = some (.dT (entN 0 ns))
def Out (a b : Addr) (H H' : Hp) : Prop := ∀ c u, c ≠ a → c ≠ b → H c = some u → H' c = some u
theorem Out.of {a b : Addr} {H H' : Hp} (s : Same H H') : Out a b H H' := fun c u _ _ e => s c u e
theorem Out.trans {a b : Addr} {H H1 H2 : Hp} (x : Out a b H H1) (y : Out a b H1 H2) : Out a b H H2 := fun c u h1 h2 e => y c u h1 h2 (x c u h1 h2 e)
theorem Made.same {H H' : Hp} {t a b : Addr} {ns : List Nd} (m : Made H t a b ns) (s : Same H H') : Made H' t a b ns := by
  obtain ⟨m1, ⟨cs, m2, l, m3⟩, m4⟩ := m
  exact ⟨s _ _ m1, ⟨cs, s _ _ m2, l, fun i c z e1 e2 => s _ _ (m3 i c z e1 e2)⟩, s _ _ m4⟩
def okNode (N : List Str) (sc : Scope) : List Stmt → Bool
  | [.Assign [.Tuple es _ _] (.Name m _) _, .If c1 [.Return (some (.Name n2 _)) _] [] _, .Assign [.Name nd p3] (.Tuple [.Name p4 _, .Name n3 _, .Name y2 _] _ _) _,
      .If (.Compare (.Name nd2 _) [.NotIn] [.Name nb _] _) [.Assign [.Subscript (.Name nb2 _) (.Name nd3 _) _] (.BinOp (.Call (.Name ln _) [.Name ns _] [] _) .Add (.Constant (.int two) _ _) _) _, .Expr (.Call (.Attribute (.Name ns2 _) ap apos) [.Name nd4 _] [] cpos) _] [] _,
      .Return (some (.Subscript (.Name nb3 _) (.Name nd5 _) _)) _] =>
    tgsOk N sc [4, 5] es && slotOk N sc 0 m && okE N sc (.cmp .Eq (.v 2) (.v 3)) c1 && slotOk N sc 2 n2 && tgOk N sc 6 (.Name nd p3) && slotOk N sc 1 p4 && slotOk N sc 2 n3 && slotOk N sc 3 y2 && slotOk N sc 6 nd2 && slotOk N sc 5 nb && slotOk N sc 5 nb2 && slotOk N sc 6 nd3 &&
      decide (ln = "len") && glOk sc ln && slotOk N sc 4 ns && decide (two = 2) && slotOk N sc 4 ns2 && decide (ap = "append") && (apos.endLine == cpos.line) && slotOk N sc 6 nd4 && slotOk N sc 5 nb3 && slotOk N sc 6 nd5
  | _ => false
section
variable {Γ : FT} {k : Nat} {ex : Ex}
theorem node_body {X : Cx} {E : XK} (o : OkS X Γ E k ex) (ss : List Stmt) (hc : okNode X.N X.env.scope ss = true) :
    PSs X ss (fun Dn σ H => ∃ (t a b : Addr) (ns : List Nd) (p x y : Nat), σ = [some (.ref t), some (.int (p : Int)), some (.int (x : Int)), some (.int (y : Int)), none, none, none] ∧ Made H t a b ns ∧ ns.length < 2 ^ 20 ∧
      ∀ H', Out a b H H' → Made H' t a b (nodeN ns p x y).2 → Dn.rt (.int ((nodeN ns p x y).1 : Int)) H') := by
  unfold okNode at hc
  split at hc
  · rename_i es kk pt0 m q0 q1 c1 n2 q2 q3 q4 nd p3 p4 q5 n3 q6 y2 q7 q8 q9 q10 nd2 q11 nb q12 q13 nb2 q14 nd3 q15 q16 ln q17 ns q18 q19 two q20 q21 q22 q23 ns2 q24 ap apos nd4 q25 cpos q26 q27 nb3 q28 nd5 q29 q30 q31
    simp only [Bool.and_eq_true, decide_eq_true_eq] at hc
    obtain ⟨⟨⟨⟨⟨⟨⟨⟨⟨⟨⟨⟨⟨⟨⟨⟨⟨⟨⟨⟨⟨h1, h2⟩, h3⟩, h4⟩, h5⟩, h6⟩, h7⟩, h8⟩, h9⟩, h10⟩, h11⟩, h12⟩, rfl⟩, h13⟩, h14⟩, rfl⟩, h15⟩, rfl⟩, h16⟩, h17⟩, h18⟩, h19⟩ := hc
    obtain ⟨w1, w2⟩ := tg_loc h5
    have hu1 : X.A.units + 1 < cLine := by have := o.ok.hu; omega
    have hG := g_ok (g := .t [4, 5]) (e := .Tuple es kk pt0) o.ok.nd o.ok.calm o.fnIn h1
    refine PSs.imp (pss_cons (ps_asg (pe_v h2) hG (show swapsWithSole [.Tuple es kk pt0] (.Name m q0) q1.line X.env = pure false from @sw_tup (.Name m q0) es kk pt0 q1.line X.env) (sw_store (x := .Name m q0) rfl) rfl)
      (pss_cons (ps_if (sE (.cmp .Eq (.v 2) (.v 3)) c1 o.ok h3).2 (pss_cons (ps_ret (pe_v h4)) pss_nil) pss_nil)
      (pss_cons (ps_set o.ok.nd w1 w2 (pe_tup (pa_cons (pe_v h6) (pa_cons (pe_v h7) (pa_cons (pe_v h8) pa_nil)))) rfl (.inl (o.fn _)))
      (pss_cons (ps_if (pt_cmp (pc_dnotin hu1 (pe_v h9) (pe_v h10))) (pss_cons (ps_dput hu1 (pe_v h11) (pe_v h12) (pe_add (pe_callB call_len_seq (gl_of h13).1 (o.ok.blt _ (by decide)) (by decide +kernel) (pa_cons (pe_v h14) pa_nil)) pe_int) rfl)
        (pss_cons (ps_expr (pe_bm PySem.F.plainAttrs_list PySem.F.slot_list_append PySem.F.type_list_append mt_append (pe_v h15) (pa_cons (pe_v h17) pa_nil) attr_name rfl h16 rfl rfl) rfl) pss_nil)) pss_nil)
      (pss_cons (ps_ret (pe_dget hu1 (pe_v h18) (pe_v h19) (fun _ _ => rfl))) pss_nil))))) fun Dn σ H ⟨t, a, b, nds, p, x, y, hσ, M, hl, q⟩ => ?_
    subst hσ
    obtain ⟨m1, ⟨cs, m2, ml, m3⟩, m4⟩ := id M
    refine ⟨.ref t, rfl, t, [.ref a, .ref b], rfl, .inl (.inl (.inl m1)), rfl, rfl, ?_⟩
    refine ⟨H, fun _ => False, fun _ => False, [.no, .no, .fr false (.int (x : Int)), .fr false (.int (y : Int)), .no, .no, .no], ⟨rfl, Same.refl _, fun _ z => z.elim, fun _ z => z.elim, fun i s e => ?_, fun i j m d m' d' a e => ?_⟩, ?_⟩
    · match i, e with
      | 0, e => cases e; trivial
      | 1, e => cases e; trivial
      | 2, e => cases e; exact ⟨_, rfl, .int _⟩
      | 3, e => cases e; exact ⟨_, rfl, .int _⟩
      | 4, e => cases e; trivial
      | 5, e => cases e; trivial
      | 6, e => cases e; trivial
      | i + 7, e => simp at e
    · match i, e with
      | 0, e => cases e
      | 1, e => cases e
      | 2, e => cases e
      | 3, e => cases e
      | 4, e => cases e
      | 5, e => cases e
      | 6, e => cases e
      | i + 7, e => simp at e
    · have ev : evE Γ [.no, .no, .fr false (.int (x : Int)), .fr false (.int (y : Int)), .no, .no, .no] (.cmp .Eq (.v 2) (.v 3)) = .ok (.fr false (.bool (decide (x = y)))) := by simp; exact Int.ofNat_inj
      rw [ev]
      intro H1 s1
      have M1 := M.same s1
      by_cases hxy : x = y
      · rw [decide_eq_true hxy]
        subst hxy
        rw [node_same] at q
        exact ⟨.int (x : Int), rfl, q H1 (Out.of s1) M1⟩
      rw [decide_eq_false hxy]
      refine ⟨.int (p : Int), rfl, .int (x : Int), rfl,   .int (y : Int), rfl, sz _ (show 3 ≤ 16777216 by decide), fun c hc => ?_⟩
      have s2 : Same H1 (upd H1 c (.tup [.int (p : Int), .int (x : Int), .int (y : Int)])) := same_new hc
      have M2 := M1.same s2
      have hcc : (upd H1 c (.tup [.int (p : Int), .int (x : Int), .int (y : Int)])) c = some (.tup ((kNd (p, x, y)).map kV)) := upd_same
      have o2 : Out a b H (upd H1 c (.tup [.int (p : Int), .int (x : Int), .int (y : Int)])) := Out.of (s1.trans s2)
      generalize upd H1 c (.tup [.int (p : Int), .int (x : Int), .int (y : Int)]) = H2 at *
      obtain ⟨k1, ⟨cs2, k2, kl, k3⟩, k4⟩ := id M2
      have hva := entN_val nds 0 (p, x, y)
      refine ⟨.ref c, rfl, .ref b, rfl, b, valV (entN 0 nds) (kNd (p, x, y)), rfl, DGet.t k4 hcc, _, rfl, ?_⟩
      have ab : a ≠ b := fun z => by rw [z, k4] at k2; cases k2
      cases hf : nds.findIdx? fun z => decide (z = (p, x, y)) with
      | some i =>
        rw [hf] at hva
        have hn : nodeN nds p x y = (i + 2, nds) := by unfold nodeN; rw [if_neg hxy, hf]
        rw [hn] at q
        rw [hva]
        refine ⟨.ref b, rfl, .ref c, rfl, b, .int (((0 + i : Nat) : Int) + 2), rfl, (by have dg := DGet.t k4 hcc; rw [hva] at dg; exact dg), ?_⟩
        rw [Nat.zero_add]
        exact q H2 o2 M2
      | none =>
        rw [hf] at hva
        have hn : nodeN nds p x y = (nds.length + 2, nds ++ [(p, x, y)]) := by unfold nodeN; rw [if_neg hxy, hf]
        rw [hn] at q
        have hva : valV (entN 0 nds) (kNd (p, x, y)) = none := hva
        rw [hva]
        have lcs : (cs2.map V.ref).length = nds.length := by rw [List.length_map, kl]
        refine ⟨.ref a, rfl, a, _, rfl, .inl (.inl (.inl k2)), _, _, rfl, rfl, .ref b, rfl, .ref c, rfl, b, _, rfl, DPut.t k4 hcc (by rw [entN_len]; exact slt (by omega)), ?_⟩
        rw [putK_new _ hva, lcs]
        have e4 : entN 0 nds ++ [(kNd (p, x, y), V.int ((nds.length : Int) + 2))] = entN 0 (nds ++ [(p, x, y)]) := by rw [entN_app, Nat.zero_add]
        rw [e4]
        have a4 : (upd H2 b (.dT (entN 0 (nds ++ [(p, x, y)])))) a = some (.lst (cs2.map V.ref)) := by rw [upd_ne ab]; exact k2
        refine ⟨.ref a, rfl, .inl ⟨rfl, _, .inl (.inl a4)⟩, .ref c, rfl, a, cs2.map V.ref, .ref c, rfl, rfl, a4, by rw [lcs]; exact slt (by omega), ?_⟩
        have nc : ∀ u w, H2 u = some (.tup w) → u ≠ a ∧ u ≠ b := fun u w e => ⟨(fun z => by rw [z, k2] at e; cases e), (fun z => by rw [z, k4] at e; cases e)⟩
        have keep : ∀ u w, H2 u = some (.tup w) → (upd (upd H2 b (.dT (entN 0 (nds ++ [(p, x, y)])))) a (.lst (cs2.map V.ref ++ [.ref c]))) u = some (.tup w) := fun u w e => by
          obtain ⟨z1, z2⟩ := nc u w e
          rw [upd_ne z1, upd_ne z2]
          exact e
        have d5 : (upd (upd H2 b (.dT (entN 0 (nds ++ [(p, x, y)])))) a (.lst (cs2.map V.ref ++ [.ref c]))) b = some (.dT (entN 0 (nds ++ [(p, x, y)]))) := by rw [upd_ne (Ne.symm ab)]; exact upd_same
        have l5 : (upd (upd H2 b (.dT (entN 0 (nds ++ [(p, x, y)])))) a (.lst (cs2.map V.ref ++ [.ref c]))) a = some (.lst ((cs2 ++ [c]).map V.ref)) := by rw [upd_same, List.map_append]; rfl
        have o5 : Out a b H2 (upd (upd H2 b (.dT (entN 0 (nds ++ [(p, x, y)])))) a (.lst (cs2.map V.ref ++ [.ref c]))) := fun u w z1 z2 e => by
          rw [upd_ne z1, upd_ne z2]
          exact e
        generalize (upd (upd H2 b (.dT (entN 0 (nds ++ [(p, x, y)])))) a (.lst (cs2.map V.ref ++ [.ref c]))) = H5 at *
        have v5 : valV (entN 0 (nds ++ [(p, x, y)])) (kNd (p, x, y)) = some (.int ((nds.length : Int) + 2)) := by
          rw [entN_val, List.findIdx?_append, hf]
          simp [List.findIdx?_cons]
        refine ⟨.ref b, rfl, .ref c, rfl, b, .int ((nds.length : Int) + 2), rfl, (by have dg := DGet.t d5 (keep _ _ hcc); rw [v5] at dg; exact dg), ?_⟩
        refine q H5 (o2.trans o5) ⟨keep _ _ k1, ⟨cs2 ++ [c], l5, by simp [kl], fun i u z e1 e2 => ?_⟩, d5⟩
        by_cases hi : i < cs2.length
        · rw [List.getElem?_append_left hi] at e1
          rw [List.getElem?_append_left (by omega)] at e2
          exact keep _ _ (k3 i u z e1 e2)
        · rw [List.getElem?_append_right (by omega)] at e1
          rw [List.getElem?_append_right (by omega)] at e2
          have e0 : i - cs2.length = 0 := by
            have := (List.getElem?_eq_some_iff.mp e1).1
            simp at this
            omega
          have e0' : i - nds.length = 0 := by omega
          rw [e0] at e1
          rw [e0'] at e2
          cases e1
          cases e2
          exact keep _ _ hcc
  · cases hc
end
end En

set_option Elab.async false
set_option linter.all false
set_option maxRecDepth 100000
set_option maxHeartbeats 8000000
namespace En
open PySem PySem.Spec PyProof.Rows L2

/-! ### what is the caller's has changed: the rest of the state goes on -/
open Classical in
noncomputable def over (M0 : AS) (H0 H3 : Hp) : Hp := fun c => if M0 c then H3 c else H0 c
theorem EnvOk.over {H0 : Hp} {M0 : AS} {H2 H3 : Hp} {M : AS} {σ : L2.St} {env : List Sl} (ok : EnvOk H0 M0 H2 M σ env) (k : ∀ c u, ¬ M0 c → H2 c = some u → H3 c = some u) (hm : ∀ c, M0 c → ∃ o, H3 c = some o ∧ Mut (some o)) : EnvOk (over M0 H0 H3) M0 H3 M σ env := by
  have nm : ∀ {c}, ¬ M c → ¬ M0 c := fun {c} h z => h (ok.m0 c z).1
  have eo : ∀ {c}, ¬ M0 c → En.over M0 H0 H3 c = H0 c := fun {c} h => if_neg h
  have em : ∀ {c}, M0 c → En.over M0 H0 H3 c = H3 c := fun {c} h => if_pos h
  have key : ∀ {m : Bool} (a : Addr) (u : HO), Lm H0 M m a → H2 a = some u → H3 a = some u ∧ Lm (En.over M0 H0 H3) M m a := fun {m} a u l e => ⟨k a u (nm l.1) e, l.1, fun z => by rw [eo (nm l.1)]; exact l.2 z⟩
  have tup : ∀ a xs, Rd H2 a (.tup xs) → Rd H3 a (.tup xs) := fun a xs r => by
    have h0 : ¬ M0 a := fun z => by
      obtain ⟨o, e, mu⟩ := ok.dom a (ok.m0 a z).1
      rcases r with r | ⟨o', r⟩
      · rw [r] at e; cases e; exact mu
      · rw [r] at e; cases e; exact mu
    rcases r with r | ⟨o', r⟩
    · exact .inl (k _ _ h0 r)
    · exact .inr ⟨o', k _ _ h0 r⟩
  refine ⟨ok.len, fun c u e => ?_, fun c z => ⟨(ok.m0 c z).1, fun z2 => ?_⟩, fun c z => ?_, fun i s e => ?_, ok.dis⟩
  · by_cases h : M0 c
    · rw [em h] at e; exact e
    · rw [eo h] at e; exact k c u h (ok.same c u e)
  · obtain ⟨o, e, _⟩ := hm c z
    rw [em z, e] at z2
    cases z2
  · by_cases h : M0 c
    · exact hm c h
    · obtain ⟨o, e, mu⟩ := ok.dom c z
      exact ⟨o, k c o h e, mu⟩
  · have h := ok.sl i s e
    cases s with
    | no => trivial
    | fr m d =>
      obtain ⟨v, q, t⟩ := h
      exact ⟨v, q, Dt.go key tup _ _ t⟩
    | ow m d =>
      obtain ⟨a, q, x, y, t⟩ := h
      have h0 : ¬ M0 a := fun z => (ok.m0 a z).2 y
      refine ⟨a, q, x, by rw [eo h0]; exact y, ?_⟩
      obtain ⟨u, eu, _⟩ := t.there
      exact t.go ((k a u h0 eu).trans eu.symm) key tup
    | pt v => exact h
    | kn v m d => exact ⟨h.1, Dt.go key tup _ _ h.2⟩
section
variable {Γ : FT} {k fuel : Nat} {ex : Ex}
/-- statements ahead of others -/
theorem sApp : ∀ (m : MSs) {X : Cx} {E : XK} (s1 s2 : List Stmt) {t2 : TS}, OkS X Γ E k ex → okSs ex X.N X.env.scope m s1 = true → PSs X s2 t2 → PSs X (s1 ++ s2) (fun D σ H => ∃ H0 M0 M env, EnvOk H0 M0 H M σ env ∧ Sp E X.mg { D with nx := t2 D } H0 M0 H M (evSs Γ fuel m env))
  | .nil, X, E, s1, s2, t2, o, h, h2 => by
    simp only [okSs] at h
    split at h
    · exact h2.imp fun D σ H ⟨H0, M0, M, env, eo, q⟩ => q σ H M eo (Evo.refl _ _)
    · cases h
  | .cons m r, X, E, s1, s2, t2, o, h, h2 => by
    simp only [okSs] at h
    split at h
    · simp only [Bool.and_eq_true] at h
      refine PSs.imp (pss_cons (sS (fuel := fuel) m _ o h.1) (sApp r _ s2 o h.2 h2)) fun D σ H ⟨H0, M0, M, env, eo, q⟩ => ?_
      simp only [evSs] at q
      exact ⟨H0, M0, M, env, eo, q.then fun env' σ' H' M' q' k' e' => ⟨H0, M0, M', env', k', q'.base e'⟩⟩
    · cases h
  | .frz i r, X, E, s1, s2, t2, o, h, h2 => by
    simp only [okSs] at h
    refine (sApp r s1 s2 o h h2).imp fun D σ H ⟨H0, M0, M, env, eo, q⟩ => ?_
    simp only [evSs] at q
    split at q
    · rename_i m d e
      obtain ⟨a, h1, h2, h3, t⟩ := eo.sl i _ e
      obtain ⟨k, ev⟩ := eo.freeze e h1 h3 t
      exact ⟨H0, M0, _, _, k, q.base ev⟩
    · exact q.elim
end
theorem sp_fs {E : XK} {mg : Str → Option Value} {D : Ends} {H0 : Hp} {M0 : AS} {H : Hp} {M : AS} {f : Fl} {N : List Sl → Prop} {Qr : Rv → Prop} (h : FS (fun _ => False) (fun _ => False) (fun _ => False) Qr f N)
    (hr : ∀ r, Qr r → ∀ v H' M', Same H0 H' → (∀ a, M0 a → M' a) → RvOk H0 M' H0 H' v r → D.rt v H') (hn : ∀ e, N e → ∀ σ' H' M', EnvOk H0 M0 H' M' σ' e → Evo H M H' M' → D.nx σ' H') : Sp E mg D H0 M0 H M f := by
  cases h with
  | next h => exact hn _ h
  | ret h => exact hr _ h
  | brk h => exact h.elim
  | cnt h => exact h.elim
  | err h => exact h.elim
/-! ### what number_of reckons ahead of its calls -/
theorem next_step {r : Tx} {q : Nat} (h : r[q]? = some 45) : nextT r q = nextT r (q + 1) := by
  unfold nextT
  obtain ⟨hq, e⟩ := List.getElem?_eq_some_iff.mp h
  rw [List.drop_eq_getElem_cons hq, e, List.takeWhile_cons]
  simp only [decide_true, if_true, List.length_cons]
  omega
theorem next_stop {r : Tx} {q : Nat} (h : r[q]? ≠ some 45) : nextT r q = q := by
  unfold nextT
  by_cases hq : q < r.length
  · rw [List.getElem?_eq_getElem hq] at h
    rw [List.drop_eq_getElem_cons hq, List.takeWhile_cons, decide_eq_false fun e => h (by rw [e])]
    simp
  · rw [List.drop_of_length_le (by omega)]
    rfl
theorem fold_min : ∀ (xs : List Nat) (a : Nat), ∃ m, (m = a ∨ m ∈ xs) ∧ m ≤ a ∧ (∀ x ∈ xs, m ≤ x) ∧ (xs.map fun z : Nat => (z : Int)).foldl (fun a b => if b < a then b else a) (a : Int) = (m : Int)
  | [], a => ⟨a, .inl rfl, Nat.le_refl _, by simp, rfl⟩
  | x :: xs, a => by
    have hx : (if (x : Int) < (a : Int) then (x : Int) else (a : Int)) = ((if x < a then x else a : Nat) : Int) := by
      by_cases h : x < a
      · rw [if_pos h, if_pos (by omega)]
      · rw [if_neg h, if_neg (by omega)]
    obtain ⟨m, h1, h2, h3, h4⟩ := fold_min xs (if x < a then x else a)
    refine ⟨m, ?_, ?_, fun y hy => ?_, ?_⟩
    · rcases h1 with h1 | h1
      · rw [h1]
        split
        · exact .inr List.mem_cons_self
        · exact .inl rfl
      · exact .inr (List.mem_cons_of_mem _ h1)
    · split at h2 <;> omega
    · rcases List.mem_cons.mp hy with rfl | hy
      · split at h2 <;> omega
      · exact h3 y hy
    · rw [List.map_cons, List.foldl_cons, hx]
      exact h4
theorem min_nats {l : List Nat} (h : l ≠ []) : ∃ m, m ∈ l ∧ (∀ x ∈ l, m ≤ x) ∧ semBi "min" [.list (l.map fun z : Nat => PyData.int (z : Int))] = some (false, .int (m : Int)) := by
  cases l with
  | nil => exact absurd rfl h
  | cons a xs =>
    obtain ⟨m, h1, h2, h3, h4⟩ := fold_min xs a
    refine ⟨m, List.mem_cons.mpr h1, fun x hx => ?_, ?_⟩
    · rcases List.mem_cons.mp hx with rfl | hx
      · exact h2
      · exact h3 x hx
    · have e0 : semBi "min" [.list ((a :: xs).map fun z : Nat => PyData.int (z : Int))] = s_min [.list ((a :: xs).map fun z : Nat => PyData.int (z : Int))] := by
        unfold semBi
        rw [if_neg (by decide), if_neg (by decide), if_neg (by decide), if_neg (by decide), if_pos rfl]
      rw [e0]
      have ha : allO isInt ((a :: xs).map fun z : Nat => PyData.int (z : Int)) = some ((a :: xs).map fun z : Nat => (z : Int)) := by
        have := allO_int ((a :: xs).map fun z : Nat => (z : Int))
        rw [List.map_map] at this
        exact this
      show (allO isInt ((a :: xs).map fun z : Nat => PyData.int (z : Int))).bind _ = _
      have hm : minL ((a :: xs).map fun z : Nat => (z : Int)) = some (m : Int) := by
        show some _ = _
        rw [h4]
      rw [ha, Option.bind_some, hm]
      rfl
namespace M
def nextTold : MF := ⟨2, (.cons (.whl (.bop true (.cons (.cmp .Lt (.v 1) (.bi "len" (.cons (.v 0) .nil))) (.cons (.cmp .Eq (.ix (.v 0) (.v 1)) (.ks "-")) .nil))) (.cons (.set 1 (.bin .Add (.v 1) (.ki 1)) false) .nil)) (.cons (.ret (.v 1)) .nil))⟩
def NextAt (Γ : FT) : Prop := ∃ Γ1 n1, 1000 < n1 ∧ Γ "next_told" = some (2, fun ds => runF Γ1 n1 nextTold ds)
theorem next_eq {Γ : FT} {n : Nat} (hn : 1000 < n) (r : Tx) (p : Nat) (hp : p ≤ r.length) (hl : r.length ≤ 1000) : runF Γ n nextTold [tx r, .int (p : Int)] = .ok (.fr false (.int (nextT r p : Int))) := by
  have main : RS (fun _ => False) (runF Γ n nextTold [tx r, .int (p : Int)]) fun v => v = .fr false (.int (nextT r p : Int)) := by
    refine rs_run ?_
    simp [nextTold, startE]
    obtain ⟨I, hI⟩ : ∃ I : Nat → List Sl → Prop, ∀ m e, I m e = ∃ q : Nat, e = [.fr false (tx r), .fr false (.int (q : Int))] ∧ q ≤ r.length ∧ m = r.length - q ∧ nextT r q = nextT r p := ⟨_, fun _ _ => rfl⟩
    refine fs_whl I (m := r.length - p) ?_ (by omega) fun m e h => ?_
    · rw [hI]
      exact ⟨p, rfl, hp, rfl, rfl⟩
    · rw [hI] at h
      obtain ⟨q, rfl, hq, rfl, hnx⟩ := h
      simp [-rs_bopA, len_tx (l := r) (sz _ (by omega))]
      by_cases hlt : q < r.length
      · have hlt' : ((q : Int) < (r.length : Int)) := by omega
        have ix := ix_tx (l := r) (i := q) (sz _ (by omega)) (List.getElem?_eq_getElem hlt)
        by_cases hd : r[q] = 45
        · have e45 : r[q]? = some 45 := by rw [List.getElem?_eq_getElem hlt, hd]
          have hnl : ¬ r.length ≤ q := by omega
          simp [hlt, hnl, ix, hd, hI]
          exact ⟨r.length - (q + 1), by omega, q + 1, by omega, by omega, rfl, by rw [← next_step e45]; exact hnx⟩
        · have st := next_stop (r := r) (q := q) (by rw [List.getElem?_eq_getElem hlt]; simpa using hd)
          have hnl : ¬ r.length ≤ q := by omega
          simp [hlt, hnl, ix, hd]
          rw [← hnx, st]
      · have st := next_stop (r := r) (q := q) (by rw [List.getElem?_eq_none (by omega)]; simp)
        have hnl : r.length ≤ q := by omega
        simp [hlt, hnl]
        rw [← hnx, st]
  obtain ⟨a, e, rfl⟩ := rs_eq main
  exact e
def numBlk : MSs := .cons (.ife (.cmp .Eq (.v 1) (.lst .nil)) (.cons (.ret (.ki 0)) .nil) .nil) (.cons (.set 3 (.bi "min" (.cons (.lc (.n 4) (.e (.v 1)) .no (.call "next_told" (.cons (.v 4) (.cons (.v 2) .nil)))) .nil)) false) (.cons (.for_ (.n 4) (.e (.v 1)) (.cons (.ife (.cmp .Eq (.call "next_told" (.cons (.v 4) (.cons (.v 2) .nil))) (.bi "len" (.cons (.v 4) .nil))) (.cons (.ret (.ki 1)) .nil) .nil) .nil)) .nil))
theorem numBlk_fs {Γ : FT} {fuel : Nat} (hx : NextAt Γ) {w p : Nat} (hp : p ≤ w) (hw : w ≤ 900) (t : V) {m1 : Bool} (rows : List Tx) (hfew : rows.length ≤ 1000) (hr : ∀ r ∈ rows, Row w r) :
    FS (fun _ => False) (fun _ => False) (fun _ => False) (fun r => (r = .fr false (.int 0) ∧ rows = []) ∨ (r = .fr false (.int 1) ∧ ∃ r ∈ rows, nextT r p = w)) (evSs Γ fuel numBlk [.pt t, .fr m1 (.list (rows.map tx)), .fr false (.int (p : Int)), .no, .no, .no, .no])
      (fun e => ∃ (here : Nat) (s4 : Sl), e = [.pt t, .fr m1 (.list (rows.map tx)), .fr false (.int (p : Int)), .fr false (.int (here : Int)), s4, .no, .no] ∧ here < w ∧ (∀ r ∈ rows, here ≤ nextT r p ∧ nextT r p < w) ∧ ∃ r ∈ rows, nextT r p = here) := by
  obtain ⟨Γ1, n1, hn1, e1⟩ := hx
  have nx : ∀ r ∈ rows, runF Γ1 n1 nextTold [tx r, .int (p : Int)] = .ok (.fr false (.int (nextT r p : Int))) := fun r h => next_eq hn1 r p (by rw [(hr r h).1]; exact hp) (by rw [(hr r h).1]; omega)
  have eqn := bad_nil (G := []) rows hr
  unfold numBlk
  by_cases h0 : rows = []
  · have eqn : eqO (.list (rows.map tx)) (.list []) = some true := by rw [eqn, decide_eq_true h0]
    simp [eqn]
    exact h0
  · have eqn : eqO (.list (rows.map tx)) (.list []) = some false := by rw [eqn, decide_eq_false h0]
    simp [eqn]
    obtain ⟨m, hm1, hm2, hm3⟩ := min_nats (l := rows.map fun r => nextT r p) (by simpa using h0)
    refine rs_lc (fun i m L => m = false ∧ L = ((rows.map fun r => nextT r p).take i).map fun z : Nat => PyData.int (z : Int)) ⟨rfl, rfl⟩ (fun i d m L hd' h => ?_) (fun m L h => ?_)
    · obtain ⟨rfl, rfl⟩ := h
      obtain ⟨hi, rfl⟩ := map_at hd'
      have g := take_get (l := rows.map fun r => nextT r p) (i := i) (a := nextT rows[i] p) (by rw [List.getElem?_map, List.getElem?_eq_getElem hi]; rfl)
      have n2 := nx _ (List.getElem_mem hi)
      generalize rows[i] = r at *
      generalize (rows.map fun r => nextT r p).take (i + 1) = T at *
      subst g
      simp [lcT, e_call e1, n2]
    · obtain ⟨rfl, rfl⟩ := h
      rw [List.length_map, List.take_of_length_le (by simp)]
      refine ⟨sz _ (by omega), ?_⟩
      dsimp only
      rw [hm3]
      simp
      obtain ⟨r0, hr0, hr1⟩ := List.mem_map.mp hm1
      obtain ⟨I, hI⟩ : ∃ I : Nat → List Sl → Prop, ∀ i e, I i e = ∃ s4 : Sl, e = [.pt t, .fr m1 (.list (rows.map tx)), .fr false (.int (p : Int)), .fr false (.int (m : Int)), s4, .no, .no] ∧ ∀ r ∈ rows.take i, nextT r p < w := ⟨_, fun _ _ => rfl⟩
      refine fs_for I ?_ (fun i d e hd h => ?_) (fun e h => ?_)
      · rw [hI]
        exact ⟨_, rfl, by simp⟩
      · rw [hI] at h
        obtain ⟨s4, rfl, h⟩ := h
        obtain ⟨hi, rfl⟩ := map_at hd
        have g := take_get (List.getElem?_eq_getElem hi)
        have hmem := List.getElem_mem hi
        have n2 := nx _ hmem
        have hrr := hr _ hmem
        have nl := next_le (r := rows[i]) (p := p) (by rw [hrr.1]; exact hp)
        generalize rows[i] = r at *
        by_cases hq : nextT r p = w
        · have hq' : ((nextT r p : Int) = (w : Int)) := by omega
          simp [e_call e1, n2, len_tx (l := r) (sz _ (by rw [hrr.1]; omega)), hrr.1, hq']
          exact ⟨r, hmem, hq⟩
        · have hq' : ¬ ((nextT r p : Int) = (w : Int)) := by omega
          simp [e_call e1, n2, len_tx (l := r) (sz _ (by rw [hrr.1]; omega)), hrr.1, hq']
          rw [hI]
          refine ⟨_, rfl, fun x hx => ?_⟩
          rw [g] at hx
          rcases List.mem_append.mp hx with hx | hx
          · exact h x hx
          · rw [List.mem_singleton.mp hx]
            rw [hrr.1] at nl
            omega
      · rw [hI] at h
        obtain ⟨s4, rfl, h⟩ := h
        rw [List.length_map, List.take_of_length_le (Nat.le_refl _)] at h
        have hmr : ∀ r ∈ rows, m ≤ nextT r p := fun r hr => hm2 _ (List.mem_map_of_mem hr)
        have := h r0 hr0
        simp
        exact ⟨m, rfl, by omega, fun r hr => ⟨hmr r hr, h r hr⟩, r0, hr0, hr1⟩
end M
end En

set_option Elab.async false
set_option linter.all false
set_option maxRecDepth 100000
set_option maxHeartbeats 8000000
namespace En
open PySem PySem.Spec PyProof.Rows L2

/-! ### number_of: what it comes to, place by place -/
def goR (rows : List Tx) (p s : Nat) : List Tx := rows.filter fun r => decide (r[p]? ≠ some s)
theorem canon_step {w p here : Nat} {rows : List Tx} {ns : List Nd} (hr : ∀ r ∈ rows, Row w r) (hge : p ≤ here) (hlt : here < w) (h1 : ∀ r ∈ rows, here ≤ nextT r p) :
    canon (w - p) p (setR rows p) ns = nodeN (canon (w - (here + 1)) (here + 1) (setR (goR rows here 48) (here + 1)) (canon (w - (here + 1)) (here + 1) (setR (goR rows here 49) (here + 1)) ns).2).2 here
      (canon (w - (here + 1)) (here + 1) (setR (goR rows here 49) (here + 1)) ns).1 (canon (w - (here + 1)) (here + 1) (setR (goR rows here 48) (here + 1)) (canon (w - (here + 1)) (here + 1) (setR (goR rows here 49) (here + 1)) ns).2).1 := by
  have a := setR_to hr (here - p) p ns (by omega) fun r hm i h2 h3 => next_dash h2 (by have := h1 r hm; omega)
  rw [show p + (here - p) = here by omega] at a
  rw [a, show w - here = (w - (here + 1)) + 1 by omega]
  exact setR_split (w := w) hr (by omega)
theorem next_told : ∀ (n : Nat) (r : Tx) (p : Nat), r.length - p ≤ n → nextT r p < r.length → r[nextT r p]? ≠ some 45
  | 0, r, p, h, h2 => by have := next_ge r p; omega
  | n + 1, r, p, h, h2 => by
    by_cases e : r[p]? = some 45
    · rw [next_step e] at h2 ⊢
      exact next_told n r (p + 1) (by omega) h2
    · rw [next_stop e]
      exact e
theorem goR_row {w p s : Nat} {rows : List Tx} (hr : ∀ r ∈ rows, Row w r) : ∀ r ∈ goR rows p s, Row w r := fun r h => hr r (List.mem_filter.mp h).1
def above (tp : List Nat) (p : Nat) : List Nat := tp.filter fun i => decide (p < i)
theorem above_lt {tp : List Nat} {p : Nat} (h : p ∈ tp) : (above tp p).length + 1 ≤ tp.length := by
  unfold above
  have : (tp.filter fun i => decide (p < i)).length < tp.length := List.length_filter_lt_length_iff_exists.mpr ⟨p, h, by simp⟩
  omega
theorem above_tell {tp : List Nat} {rows : List Tx} {p here s : Nat} (hge : p ≤ here) (h : ∀ r ∈ rows, ∀ i x : Nat, r[i]? = some x → x ≠ 45 → p ≤ i → i ∈ tp) : ∀ r ∈ goR rows here s, ∀ i x : Nat, r[i]? = some x → x ≠ 45 → here + 1 ≤ i → i ∈ above tp here := fun r hr i x e n hi =>
  List.mem_filter.mpr ⟨h r (List.mem_filter.mp hr).1 i x e n (by omega), decide_eq_true (by omega)⟩
theorem here_in {w p here : Nat} {tp : List Nat} {rows : List Tx} (hr : ∀ r ∈ rows, Row w r) (hlt : here < w) (hge : p ≤ here) (h : ∀ r ∈ rows, ∀ i x : Nat, r[i]? = some x → x ≠ 45 → p ≤ i → i ∈ tp) (hx : ∃ r ∈ rows, nextT r p = here) : here ∈ tp := by
  obtain ⟨r, hm, e⟩ := hx
  have hl := (hr r hm).1
  have nt := next_told _ r p (Nat.le_refl _) (by omega)
  rw [e] at nt
  have g := List.getElem?_eq_getElem (l := r) (i := here) (by omega)
  exact h r hm here _ g (fun z => nt (by rw [g, z])) hge
theorem pow_two {k m : Nat} (h : k + 1 ≤ m) : 2 ^ k + 2 ^ k ≤ 2 ^ m := by
  have := Nat.pow_le_pow_right (n := 2) (by decide) h
  rw [Nat.pow_succ] at this
  omega
theorem grow {w : Nat} : ∀ (n : Nat) (tp : List Nat) (p : Nat) (rows : List Tx) (ns : List Nd), tp.length ≤ n → p ≤ w → (∀ r ∈ rows, Row w r) → (∀ r ∈ rows, ∀ i x : Nat, r[i]? = some x → x ≠ 45 → p ≤ i → i ∈ tp) →
    (canon (w - p) p (setR rows p) ns).2.length + 1 ≤ ns.length + 2 ^ tp.length := by
  intro n
  induction n with
  | zero =>
    intro tp p rows ns hn hp hr ht
    have p1 : 1 ≤ 2 ^ tp.length := Nat.one_le_two_pow
    by_cases h0 : rows = []
    · rw [canon_no fun l _ _ => by rw [h0]; rintro ⟨r, h, _⟩; cases h]
      dsimp only
      omega
    · obtain ⟨r, hm⟩ := List.exists_mem_of_ne_nil _ h0
      have hl := (hr r hm).1
      have nl := next_le (r := r) (p := p) (by omega)
      by_cases hq : nextT r p = w
      · rw [setR_all hp hm hl hq]
        dsimp only
        omega
      · have hin := here_in (here := nextT r p) hr (by omega) (next_ge r p) ht ⟨r, hm, rfl⟩
        have := List.length_pos_of_mem hin
        omega
  | succ n ih =>
    intro tp p rows ns hn hp hr ht
    have p1 : 1 ≤ 2 ^ tp.length := Nat.one_le_two_pow
    by_cases h0 : rows = []
    · rw [canon_no fun l _ _ => by rw [h0]; rintro ⟨r, h, _⟩; cases h]
      dsimp only
      omega
    by_cases h1 : ∃ r ∈ rows, nextT r p = w
    · obtain ⟨r, hm, hq⟩ := h1
      rw [setR_all hp hm (hr r hm).1 hq]
      dsimp only
      omega
    · obtain ⟨m, hm1, hm2, _⟩ := min_nats (l := rows.map fun r => nextT r p) (by simpa using h0)
      obtain ⟨r0, hr0, e0⟩ := List.mem_map.mp hm1
      have hl0 := (hr r0 hr0).1
      have nl := next_le (r := r0) (p := p) (by omega)
      have hlt : m < w := by
        have : nextT r0 p ≠ w := fun z => h1 ⟨r0, hr0, z⟩
        omega
      have hge : p ≤ m := by rw [← e0]; exact next_ge r0 p
      have hin := here_in hr hlt hge ht ⟨r0, hr0, e0⟩
      have al := above_lt hin
      have i0 := ih (above tp m) (m + 1) (goR rows m 49) ns (by omega) (by omega) (goR_row hr) (above_tell hge ht)
      have i1 := ih (above tp m) (m + 1) (goR rows m 48) (canon (w - (m + 1)) (m + 1) (setR (goR rows m 49) (m + 1)) ns).2 (by omega) (by omega) (goR_row hr) (above_tell hge ht)
      rw [canon_step hr hge hlt fun r h => hm2 _ (List.mem_map_of_mem h)]
      have pw := pow_two al
      have nn : ∀ (N : List Nd) (p a b : Nat), (nodeN N p a b).2.length ≤ N.length + 1 := fun N p a b => by
        unfold nodeN
        split
        · dsimp only; omega
        · split
          · dsimp only; omega
          · simp
      have := nn (canon (w - (m + 1)) (m + 1) (setR (goR rows m 48) (m + 1)) (canon (w - (m + 1)) (m + 1) (setR (goR rows m 49) (m + 1)) ns).2).2 m (canon (w - (m + 1)) (m + 1) (setR (goR rows m 49) (m + 1)) ns).1 (canon (w - (m + 1)) (m + 1) (setR (goR rows m 48) (m + 1)) (canon (w - (m + 1)) (m + 1) (setR (goR rows m 49) (m + 1)) ns).2).1
      omega
/-! ### number_of, step by step -/
structure NumPre (H : Hp) (t a b : Addr) (ns : List Nd) (v1 : V) (rows : List Tx) (p w : Nat) (tp : List Nat) : Prop where
  made : Made H t a b ns
  dat : Dt H (fun c => c ≠ a ∧ c ≠ b) v1 (.list (rows.map tx))
  pw : p ≤ w
  w9 : w ≤ 900
  few : rows.length ≤ 1000
  row : ∀ r ∈ rows, Row w r
  tell : ∀ r ∈ rows, ∀ i x : Nat, r[i]? = some x → x ≠ 45 → p ≤ i → i ∈ tp
  room : ns.length + 2 ^ tp.length ≤ 2 ^ 19
def spNode : L2.Sp := fun vs H Q _ => vs.length = 4 ∧ ∃ (t a b : Addr) (ns : List Nd) (p x y : Nat), vs = [.ref t, .int (p : Int), .int (x : Int), .int (y : Int)] ∧ Made H t a b ns ∧ ns.length < 2 ^ 20 ∧ ∀ H', Out a b H H' → Made H' t a b (nodeN ns p x y).2 → Q (.int ((nodeN ns p x y).1 : Int)) H'
def spNum (n : Nat) : L2.Sp := fun vs H Q _ => vs.length = 3 ∧ n ≠ 0 ∧ ∃ (t a b : Addr) (ns : List Nd) (v1 : V) (rows : List Tx) (p w : Nat) (tp : List Nat), vs = [.ref t, v1, .int (p : Int)] ∧ NumPre H t a b ns v1 rows p w tp ∧ tp.length < n ∧
  ∀ H', Out a b H H' → Made H' t a b (canon (w - p) p (setR rows p) ns).2 → Q (.int ((canon (w - p) p (setR rows p) ns).1 : Int)) H'
def cmpR (s : Str) : ME := .lc (.n 4) (.e (.v 1)) (.so (.cmp .NotEq (.ix (.v 4) (.v 3)) (.ks s))) (.v 4)
def okNum (N : List Str) (sc : Scope) : List Stmt → Bool
  | [s1, s2, s3, .Assign [.Name no p5] (.Call (.Name f1 _) [.Name m1 _, c1, e1] [] _) _, .Assign [.Name yes p6] (.Call (.Name f2 _) [.Name m2 _, c2, e2] [] _) _, .Return (some (.Call (.Name f3 _) [.Name m3 _, .Name h3 _, .Name n3 _, .Name y3 _] [] _)) _] =>
    okSs (exL []) N sc M.numBlk [s1, s2, s3] && tgOk N sc 5 (.Name no p5) && decide (f1 = "number_of") && glOk sc f1 && slotOk N sc 0 m1 && okE N sc (cmpR "1") c1 && okE N sc (.bin .Add (.v 3) (.ki 1)) e1 &&
      tgOk N sc 6 (.Name yes p6) && decide (f2 = "number_of") && glOk sc f2 && slotOk N sc 0 m2 && okE N sc (cmpR "0") c2 && okE N sc (.bin .Add (.v 3) (.ki 1)) e2 &&
      decide (f3 = "node_of") && glOk sc f3 && slotOk N sc 0 m3 && slotOk N sc 3 h3 && slotOk N sc 5 n3 && slotOk N sc 6 y3
  | _ => false
theorem cmpR_ev {Γ : FT} {env : List Sl} {m1 : Bool} {w here s : Nat} {z : Str} (hz : (PyData.str z : D) = tx [s]) {rows : List Tx} (hr : ∀ r ∈ rows, Row w r) (hlt : here < w) (hw : w ≤ 900) (hfew : rows.length ≤ 1000) (e1 : env[1]? = some (.fr m1 (.list (rows.map tx)))) (e3 : env[3]? = some (.fr false (.int (here : Int)))) (hl : 4 < env.length) :
    evE Γ env (cmpR z) = .ok (.ow false (.list ((goR rows here s).map tx))) := by
  have main : RS (fun _ => False) (evE Γ env (cmpR z)) fun v => v = .ow false (.list ((goR rows here s).map tx)) := by
    unfold cmpR
    simp [e1]
    refine rs_lc (fun i m L => m = false ∧ L = (goR (rows.take i) here s).map tx) ⟨rfl, rfl⟩ (fun i d m L hd' h => ?_) (fun m L h => ?_)
    · obtain ⟨rfl, rfl⟩ := h
      obtain ⟨hi, rfl⟩ := map_at hd'
      have g := take_get (List.getElem?_eq_getElem hi)
      have hrr := hr _ (List.getElem_mem hi)
      generalize rows[i] = r at *
      have hh : here < r.length := by rw [hrr.1]; exact hlt
      have ix := ix_tx (l := r) (i := here) (sz _ (by rw [hrr.1]; omega)) (List.getElem?_eq_getElem hh)
      have fl : goR (rows.take (i + 1)) here s = goR (rows.take i) here s ++ (if r[here] = s then [] else [r]) := by
        unfold goR
        rw [g, List.filter_append]
        congr 1
        rw [List.filter_cons, List.getElem?_eq_getElem hh]
        by_cases hs : r[here] = s
        · simp [hs]
        · simp [hs]
      rw [fl]
      have e3' : (env.set 4 (Sl.fr m1 (tx r)))[3]? = some (.fr false (.int (here : Int))) := by rw [List.getElem?_set_ne (by decide)]; exact e3
      have e4' : (env.set 4 (Sl.fr m1 (tx r)))[4]? = some (.fr m1 (tx r)) := List.getElem?_set_self hl
      by_cases hs : r[here] = s
      · simp [lcT, hl, e3', e4', ix, hz, hs]
      · simp [lcT, hl, e3', e4', ix, hz, hs]
    · obtain ⟨rfl, rfl⟩ := h
      rw [List.length_map, List.take_of_length_le (Nat.le_refl _)]
      simp
      exact sz _ (by omega)
  obtain ⟨a, e, rfl⟩ := rs_eq main
  exact e
end En

set_option Elab.async false
set_option linter.all false
set_option maxRecDepth 100000
set_option maxHeartbeats 8000000
namespace En
open PySem PySem.Spec PyProof.Rows L2

def mAB (a b : Addr) : AS := fun c => c = a ∨ c = b
theorem Made.ne {H : Hp} {t a b : Addr} {ns : List Nd} (m : Made H t a b ns) : a ≠ b := fun z => by
  obtain ⟨_, ⟨cs, m2, _⟩, m4⟩ := m
  rw [z, m4] at m2
  cases m2
theorem Made.mu {H : Hp} {t a b : Addr} {ns : List Nd} (m : Made H t a b ns) : ∀ c, mAB a b c → ∃ o, H c = some o ∧ Mut (some o) := fun c hc => by
  obtain ⟨_, ⟨cs, m2, _⟩, m4⟩ := m
  rcases hc with rfl | rfl
  · exact ⟨_, m2, trivial⟩
  · exact ⟨_, m4, trivial⟩
theorem Out.k {a b : Addr} {H H' : Hp} (o : Out a b H H') : ∀ c u, ¬ mAB a b c → H c = some u → H' c = some u := fun c u h e => o c u (fun z => h (.inl z)) (fun z => h (.inr z)) e
theorem dt_txs {H H2 : Hp} {L L' : AS} {q : Addr} {xs : List V} {rows : List Tx} (h : H q = some (.lst xs)) (s : Same H H2) (hl : L' q) (t : Dts H L xs (rows.map tx)) : Dt H2 L' (.ref q) (.list (rows.map tx)) :=
  .lst hl (.inl (s _ _ h)) (dts_imms _ _ (imms_tx rows) (sm_dts s t))
section
variable {Γ : FT} {k : Nat} {ex : Ex}
theorem num_body {X : Cx} {E : XK} (o : OkS X Γ E k (exL [])) (hx : M.NextAt Γ) (n : Nat) {fs fn : Addr} {fds fdn : FuncData} {pss psn : List Str}
    (Fs : FnOk X.prog X.w X.K X.mg X.base (L2.CX X.prog X.w) k fs fds pss (spNum n)) (ms : X.mg "number_of" = some (.ref fs)) (ks : PySem.W.keepIn X.K (.ref fs) = true) (bs : Binds X.K fds pss [])
    (Fn : FnOk X.prog X.w X.K X.mg X.base (L2.CX X.prog X.w) k fn fdn psn spNode) (mn : X.mg "node_of" = some (.ref fn)) (kn : PySem.W.keepIn X.K (.ref fn) = true) (bn : Binds X.K fdn psn [])
    (ss : List Stmt) (hc : okNum X.N X.env.scope ss = true) :
    PSs X ss (fun Dn σ H => ∃ (t a b : Addr) (ns : List Nd) (v1 : V) (rows : List Tx) (p w : Nat) (tp : List Nat), σ = [some (.ref t), some v1, some (.int (p : Int)), none, none, none, none] ∧ NumPre H t a b ns v1 rows p w tp ∧ tp.length < n + 1 ∧
      ∀ H', Out a b H H' → Made H' t a b (canon (w - p) p (setR rows p) ns).2 → Dn.rt (.int ((canon (w - p) p (setR rows p) ns).1 : Int)) H') := by
  unfold okNum at hc
  split at hc
  · rename_i s1 s2 s3 no p5 f1 q1 m1 q2 c1 e1 q3 q4 yes p6 f2 q5 m2 q6 c2 e2 q7 q8 f3 q9 m3 q10 h3 q11 n3 q12 y3 q13 q14 q15
    simp only [Bool.and_eq_true, decide_eq_true_eq] at hc
    obtain ⟨⟨⟨⟨⟨⟨⟨⟨⟨⟨⟨⟨⟨⟨⟨⟨⟨⟨g0, g1⟩, rfl⟩, g2⟩, g3⟩, g4⟩, g5⟩, g6⟩, rfl⟩, g7⟩, g8⟩, g9⟩, g10⟩, rfl⟩, g11⟩, g12⟩, g13⟩, g14⟩, g15⟩ := hc
    obtain ⟨w5, w5'⟩ := tg_loc g1
    obtain ⟨w6, w6'⟩ := tg_loc g6
    have cp : ∀ (cls : Value) (d : Option Addr) (σ : L2.St) (H : Hp), E cls d H → E cls d H := fun _ _ _ _ q => q
    have rm : Room k X.A := o.ok.room.mono (by omega)
    have call1 := pe_call (p := q1) (pos := q3) (X := X) Fs rm (gl_of g2).1 ms ks bs .nil (passes_call o.ok.tk cp) (pa_cons (pe_v (pos := q2) g3) (pa_cons (sE _ c1 o.ok g4).1 (pa_cons (sE _ e1 o.ok g5).1 pa_nil (star_cons g5 _ _)) (star_cons g4 _ _))) (gl_of g2).2 rfl (back_any _ _ (by rw [star_cons g4, star_cons g5]; rfl))
    have call2 := pe_call (p := q5) (pos := q7) (X := X) Fs rm (gl_of g7).1 ms ks bs .nil (passes_call o.ok.tk cp) (pa_cons (pe_v (pos := q6) g8) (pa_cons (sE _ c2 o.ok g9).1 (pa_cons (sE _ e2 o.ok g10).1 pa_nil (star_cons g10 _ _)) (star_cons g9 _ _))) (gl_of g7).2 rfl (back_any _ _ (by rw [star_cons g9, star_cons g10]; rfl))
    have call3 := pe_call (p := q9) (pos := q14) (X := X) Fn rm (gl_of g11).1 mn kn bn .nil (passes_call o.ok.tk cp) (pa_cons (pe_v (pos := q10) g12) (pa_cons (pe_v (pos := q11) g13) (pa_cons (pe_v (pos := q12) g14) (pa_cons (pe_v (pos := q13) g15) pa_nil)))) (gl_of g11).2 rfl rfl
    have rest := pss_cons (ps_set (pos := q4) (pos' := p5) o.ok.nd w5 w5' call1 rfl (.inl (o.fn _))) (pss_cons (ps_set (pos := q8) (pos' := p6) o.ok.nd w6 w6' call2 rfl (.inl (o.fn _))) (pss_cons (ps_ret (pos := q15) call3) pss_nil))
    refine PSs.imp (sApp (fuel := 0) M.numBlk [s1, s2, s3] _ o g0 rest) fun Dn σ H ⟨t, a, b, nds, v1, rows, p, w, tp, hσ, P, htp, q⟩ => ?_
    subst hσ
    have ab := P.made.ne
    refine ⟨H, mAB a b, mAB a b, [.pt (.ref t), .fr true (.list (rows.map tx)), .fr false (.int (p : Int)), .no, .no, .no, .no], ⟨rfl, Same.refl _, fun c z => ⟨z, fun z2 => ?_⟩, P.made.mu, fun i s e => ?_, fun i j m d m' d' a e => ?_⟩, ?_⟩
    · obtain ⟨u, e, _⟩ := P.made.mu c z
      rw [e] at z2
      cases z2
    · match i, e with
      | 0, e => cases e; rfl
      | 1, e => cases e; exact ⟨_, rfl, P.dat.wk fun c h => ⟨fun z => z.elim h.1 h.2, fun z => by cases z⟩⟩
      | 2, e => cases e; exact ⟨_, rfl, .int _⟩
      | 3, e => cases e; trivial
      | 4, e => cases e; trivial
      | 5, e => cases e; trivial
      | 6, e => cases e; trivial
      | i + 7, e => simp at e
    · match i, e with
      | 0, e => cases e
      | 1, e => cases e
      | 2, e => cases e
      | 3, e => cases e
      | 4, e => cases e
      | 5, e => cases e
      | 6, e => cases e
      | i + 7, e => simp at e
    refine sp_fs (M.numBlk_fs (fuel := 0) hx P.pw P.w9 (.ref t) (m1 := true) rows P.few P.row) (fun r hr v H' M' s1 _ rv => ?_) fun e he σ1 H1 M1 k1 ev1 => ?_
    · rcases hr with ⟨rfl, h0⟩ | ⟨rfl, r, hm, hq⟩
      · have rv : Dt H' _ v (.int 0) := rv
        cases rv
        have e0 := canon_no (n := w - p) (p := p) (f := setR rows p) (ns := nds) fun l _ _ => by rw [h0]; rintro ⟨r, h, _⟩; cases h
        rw [e0] at q
        exact q H' (Out.of s1) (P.made.same s1)
      · have rv : Dt H' _ v (.int 1) := rv
        cases rv
        rw [setR_all P.pw hm (P.row r hm).1 hq] at q
        exact q H' (Out.of s1) (P.made.same s1)
    · obtain ⟨here, s4, rfl, hlt, hall, hex⟩ := he
      have hge : p ≤ here := by
        obtain ⟨r, _, e⟩ := hex
        rw [← e]
        exact next_ge r p
      have hin := here_in P.row hlt hge P.tell hex
      have al := above_lt hin
      rw [canon_step P.row hge hlt fun r h => (hall r h).1] at q
      have made1 := P.made.same k1.same
      have z0 : σ1[0]? = some (some (.ref t)) := k1.sl 0 _ rfl
      have lenf : ∀ s, (goR rows here s).length ≤ 1000 := fun s => Nat.le_trans (List.length_filter_le _ _) P.few
      have pw2 := pow_two al
      have l0 : 0 < 2 ^ (above tp here).length := Nat.pow_pos (by decide)
      have room := P.room
      have gr0 := grow (w := w) _ (above tp here) (here + 1) (goR rows here 49) nds (Nat.le_refl _) (by omega) (goR_row P.row) (above_tell hge P.tell)
      have ec1 := cmpR_ev (Γ := Γ) (env := [.pt (.ref t), .fr true (.list (rows.map tx)), .fr false (.int (p : Int)), .fr false (.int (here : Int)), s4, .no, .no]) (s := 49) (z := "1") rfl P.row hlt P.w9 P.few rfl rfl (by simp)
      have ep : ∀ (env : List Sl), env[3]? = some (.fr false (.int (here : Int))) → evE Γ env (.bin .Add (.v 3) (.ki 1)) = .ok (.fr false (.int ((here + 1 : Nat) : Int))) := fun env he => by simp [he]
      refine ⟨.ref t, z0, H, mAB a b, M1, _, k1, ?_⟩
      rw [ec1]
      intro v2 H2 s2 rv2
      obtain ⟨q2a, rfl, hq2, hm2, _, ob2⟩ := rv2
      refine ⟨H, mAB a b, M1, _, k1.up s2, ?_⟩
      rw [ep _ rfl]
      intro v3 H3 s3 rv3
      have rv3 : Dt H3 _ v3 (.int _) := rv3
      cases rv3
      cases ob2 with
      | lst hH2 hx2 =>
        have qn : ∀ {qa : Addr}, ¬ M1 qa → qa ≠ a ∧ qa ≠ b := fun {qa} h => ⟨fun z => h (by rw [z]; exact (k1.m0 a (.inl rfl)).1), fun z => h (by rw [z]; exact (k1.m0 b (.inr rfl)).1)⟩
        have made3 := made1.same (s2.trans s3)
        refine ⟨rfl, by omega, t, a, b, nds, .ref q2a, goR rows here 49, here + 1, w, above tp here, rfl, ⟨made3, dt_txs hH2 s3 (qn hm2) hx2, by omega, P.w9, lenf 49, goR_row P.row, above_tell hge P.tell, by omega⟩, by omega, fun H4 o4 made4 => ?_⟩
        have k4 := (((k1.up (s2.trans s3)).over o4.k made4.mu).set_fr (i := 5) (m := false) (d := .int ((canon (w - (here + 1)) (here + 1) (setR (goR rows here 49) (here + 1)) nds).1 : Int)) (.int _) (by simp))
        have o14 : Out a b H H4 := ((Out.of k1.same).trans (Out.of (s2.trans s3))).trans o4
        generalize over (mAB a b) H H4 = Ho at *
        have room4 : (canon (w - (here + 1)) (here + 1) (setR (goR rows here 49) (here + 1)) nds).2.length + 2 ^ (above tp here).length ≤ 2 ^ 19 := by omega
        have gr1 := grow (w := w) _ (above tp here) (here + 1) (goR rows here 48) (canon (w - (here + 1)) (here + 1) (setR (goR rows here 49) (here + 1)) nds).2 (Nat.le_refl _) (by omega) (goR_row P.row) (above_tell hge P.tell)
        generalize hA : canon (w - (here + 1)) (here + 1) (setR (goR rows here 49) (here + 1)) nds = A at *
        obtain ⟨x, N1⟩ := A
        dsimp only at made4 k4 room4 gr1 q ⊢
        have z0' : (σ1.set 5 (some (V.int (x : Int))))[0]? = some (some (.ref t)) := by rw [List.getElem?_set_ne (by decide)]; exact z0
        have ec2 := cmpR_ev (Γ := Γ) (env := [.pt (.ref t), .fr true (.list (rows.map tx)), .fr false (.int (p : Int)), .fr false (.int (here : Int)), s4, .fr false (.int (x : Int)), .no]) (s := 48) (z := "0") rfl P.row hlt P.w9 P.few rfl rfl (by simp)
        refine ⟨.ref t, z0', Ho, mAB a b, M1, _, k4, ?_⟩
        have ec2 : evE Γ ([Sl.pt (.ref t), .fr true (.list (rows.map tx)), .fr false (.int (p : Int)), .fr false (.int (here : Int)), s4, .no, .no].set 5 (.fr false (.int (x : Int)))) (cmpR "0") = .ok (.ow false (.list ((goR rows here 48).map tx))) := ec2
        rw [ec2]
        intro v5 H5 s5 rv5
        obtain ⟨q5a, rfl, hq5, hm5, _, ob5⟩ := rv5
        refine ⟨Ho, mAB a b, M1, _, k4.up s5, ?_⟩
        rw [ep _ rfl]
        intro v6 H6 s6 rv6
        have rv6 : Dt H6 _ v6 (.int _) := rv6
        cases rv6
        cases ob5 with
        | lst hH5 hx5 =>
          have made6 := made4.same (s5.trans s6)
          refine ⟨rfl, by omega, t, a, b, N1, .ref q5a, goR rows here 48, here + 1, w, above tp here, rfl, ⟨made6, dt_txs hH5 s6 (qn hm5) hx5, by omega, P.w9, lenf 48, goR_row P.row, above_tell hge P.tell, room4⟩, by omega, fun H7 o7 made7 => ?_⟩
          have k7 := (((k4.up (s5.trans s6)).over o7.k made7.mu).set_fr (i := 6) (m := false) (d := .int ((canon (w - (here + 1)) (here + 1) (setR (goR rows here 48) (here + 1)) N1).1 : Int)) (.int _) (by simp))
          have o17 : Out a b H H7 := (o14.trans (Out.of (s5.trans s6))).trans o7
          generalize over (mAB a b) Ho H7 = Hp7 at *
          generalize hB : canon (w - (here + 1)) (here + 1) (setR (goR rows here 48) (here + 1)) N1 = B at *
          obtain ⟨y, N2⟩ := B
          dsimp only at made7 k7 gr1 q ⊢
          have z3 : ((σ1.set 5 (some (V.int (x : Int)))).set 6 (some (V.int (y : Int))))[3]? = some (some (.int (here : Int))) := by
            obtain ⟨v, e, t'⟩ := k7.sl 3 _ rfl
            cases t'
            exact e
          have z5 : ((σ1.set 5 (some (V.int (x : Int)))).set 6 (some (V.int (y : Int))))[5]? = some (some (.int (x : Int))) := by
            obtain ⟨v, e, t'⟩ := k7.sl 5 _ rfl
            cases t'
            exact e
          have z6 : ((σ1.set 5 (some (V.int (x : Int)))).set 6 (some (V.int (y : Int))))[6]? = some (some (.int (y : Int))) := by
            obtain ⟨v, e, t'⟩ := k7.sl 6 _ rfl
            cases t'
            exact e
          have z0'' : ((σ1.set 5 (some (V.int (x : Int)))).set 6 (some (V.int (y : Int))))[0]? = some (some (.ref t)) := by rw [List.getElem?_set_ne (by decide)]; exact z0'
          exact ⟨.ref t, z0'', .int (here : Int), z3, .int (x : Int), z5, .int (y : Int), z6, rfl, t, a, b, N2, here, x, y, rfl, made7, by omega, fun H8 o8 made8 => q H8 (o17.trans o8) made8⟩
  · cases hc
end
end En

set_option Elab.async false
set_option linter.all false
set_option maxRecDepth 100000
set_option maxHeartbeats 8000000
namespace En
open PySem PySem.Spec PyProof.Rows L2

/-! ### graph_of: what is told -/
def ndD (z : Nd) : D := .tuple [.int (z.1 : Int), .int (z.2.1 : Int), .int (z.2.2 : Int)]
def grD (g : Nat × List Nd) : D := .tuple [.int (g.1 : Int), .list (g.2.map ndD)]
structure GraphPre (rows : List Tx) (w : Nat) (tp : List Nat) : Prop where
  w9 : w ≤ 900
  few : rows.length ≤ 1000
  row : ∀ r ∈ rows, Row w r
  tell : ∀ r ∈ rows, ∀ i x : Nat, r[i]? = some x → x ≠ 45 → i ∈ tp
  tp8 : tp.length ≤ 8
open Classical in
noncomputable def graphG (ds : List D) : R Rv := if h : ∃ (rows : List Tx) (w : Nat) (tp : List Nat), ds = [.list (rows.map tx)] ∧ GraphPre rows w tp then .ok (.fr false (grD (canon h.choose_spec.choose 0 (setR h.choose 0) []))) else .bad
theorem txs_inj : ∀ {a b : List Tx}, a.map tx = b.map tx → a = b
  | [], [], _ => rfl
  | [], _ :: _, h => by simp at h
  | _ :: _, [], h => by simp at h
  | a :: as, b :: bs, h => by
    simp only [List.map_cons, List.cons.injEq] at h
    rw [tx_inj.mp h.1, txs_inj h.2]
theorem graph_same {rows rows' : List Tx} {w w' : Nat} {tp tp' : List Nat} (P : GraphPre rows w tp) (P' : GraphPre rows' w' tp') (e : [PyData.list (rows.map tx)] = [PyData.list (rows'.map tx)]) : canon w' 0 (setR rows' 0) [] = canon w 0 (setR rows 0) [] := by
  simp only [List.cons.injEq, PyData.list.injEq, and_true] at e
  obtain rfl := txs_inj e
  by_cases h0 : rows = []
  · rw [canon_no fun l _ _ => by rw [h0]; rintro ⟨r, hm, _⟩; cases hm]
    rw [canon_no fun l _ _ => by rw [h0]; rintro ⟨r, hm, _⟩; cases hm]
  · obtain ⟨r, hm⟩ := List.exists_mem_of_ne_nil _ h0
    rw [← (P'.row r hm).1, ← (P.row r hm).1]
theorem graphG_eq {rows : List Tx} {w : Nat} {tp : List Nat} (P : GraphPre rows w tp) : graphG [.list (rows.map tx)] = .ok (.fr false (grD (canon w 0 (setR rows 0) []))) := by
  have h : ∃ (rows' : List Tx) (w : Nat) (tp : List Nat), [PyData.list (rows.map tx)] = [PyData.list (rows'.map tx)] ∧ GraphPre rows' w tp := ⟨rows, w, tp, rfl, P⟩
  unfold graphG
  rw [dif_pos h]
  obtain ⟨e, P'⟩ := h.choose_spec.choose_spec.choose_spec
  rw [graph_same P P' e]
def okGraph (N : List Str) (sc : Scope) : List Stmt → Bool
  | [.Assign [.Name md p1] (.Tuple [.List [] _, .Dict [] [] _] _ _) _, .Assign [.Name rt p2] (.Call (.Name f _) [.Name md2 _, c1, .Constant (.int z) _ _] [] _) _, .Return (some (.Tuple [.Name rt2 _, .Subscript (.Name md3 _) ix _] _ _)) _] =>
    tgOk N sc 1 (.Name md p1) && tgOk N sc 2 (.Name rt p2) && decide (f = "number_of") && glOk sc f && slotOk N sc 1 md2 && okE N sc (.bi "list" (.cons (.v 0) .nil)) c1 && decide (z = 0) && slotOk N sc 2 rt2 && slotOk N sc 1 md3 && okE N sc (.ki 0) ix
  | _ => false
theorem env_no (H : Hp) (σ : L2.St) : EnvOk H (fun _ => False) H (fun _ => False) σ (List.replicate σ.length .no) := by
  refine ⟨by simp, Same.refl _, fun _ z => z.elim, fun _ z => z.elim, fun i s e => ?_, fun i j m d m' d' a e => ?_⟩
  · have := List.mem_of_getElem? e
    rw [List.mem_replicate] at this
    rw [this.2]
    trivial
  · have := List.mem_of_getElem? e
    rw [List.mem_replicate] at this
    cases this.2
section
variable {Γ : FT} {k : Nat} {ex : Ex}
theorem graph_body {X : Cx} {E : XK} (o : OkS X Γ E k (exL [])) {fs : Addr} {fds : FuncData} {pss : List Str}
    (Fs : FnOk X.prog X.w X.K X.mg X.base (L2.CX X.prog X.w) k fs fds pss (spNum 9)) (ms : X.mg "number_of" = some (.ref fs)) (ks : PySem.W.keepIn X.K (.ref fs) = true) (bs : Binds X.K fds pss [])
    (ss : List Stmt) (hc : okGraph X.N X.env.scope ss = true) :
    PSs X ss (fun Dn σ H => ∃ (v : V) (M : AS) (rows : List Tx) (w : Nat) (tp : List Nat), σ = [some v, none, none] ∧ (∀ a, M a → ∃ o, H a = some o ∧ Mut (some o)) ∧ Dt H (fun a => ¬ M a) v (.list (rows.map tx)) ∧ GraphPre rows w tp ∧
      ∀ u H', Same H H' → RvOk H M H H' u (.fr false (grD (canon w 0 (setR rows 0) []))) → Dn.rt u H') := by
  unfold okGraph at hc
  split at hc
  · rename_i md p1 q1 q2 q3 q4 q5 rt p2 f q6 md2 q7 c1 z q8 q9 q10 q11 rt2 q12 md3 q13 ix q14 q15 q16 q17
    simp only [Bool.and_eq_true, decide_eq_true_eq] at hc
    obtain ⟨⟨⟨⟨⟨⟨⟨⟨⟨g1, g2⟩, rfl⟩, g3⟩, g4⟩, g5⟩, rfl⟩, g6⟩, g7⟩, g8⟩ := hc
    obtain ⟨w1, w1'⟩ := tg_loc g1
    obtain ⟨w2, w2'⟩ := tg_loc g2
    have cp : ∀ (cls : Value) (d : Option Addr) (σ : L2.St) (H : Hp), E cls d H → E cls d H := fun _ _ _ _ q => q
    have rm : Room k X.A := o.ok.room.mono (by omega)
    have call1 := pe_call (p := q6) (pos := q10) (X := X) Fs rm (gl_of g3).1 ms ks bs .nil (passes_call o.ok.tk cp) (pa_cons (pe_v (pos := q7) g4) (pa_cons (sE _ c1 o.ok g5).1 (pa_cons (pe_int (i := 0) (j := q8) (pos := q9)) pa_nil) (star_cons g5 _ _))) (gl_of g3).2 rfl (back_any _ _ (by rw [star_cons g5]; rfl))
    refine PSs.imp (pss_cons (ps_set (pos := q5) (pos' := p1) o.ok.nd w1 w1' (pe_tup (pa_cons (pe_lst pa_nil) (pa_cons (pe_dnewT (X := X)) pa_nil))) rfl (.inl (o.fn _))) (pss_cons (ps_set (pos := q11) (pos' := p2) o.ok.nd w2 w2' call1 rfl (.inl (o.fn _)))
      (pss_cons (ps_ret (pos := q17) (pe_tup (pa_cons (pe_v (pos := q12) g6) (pa_cons (pe_ix L2.ix_tup (pe_v (pos := q13) g7) (sE _ ix o.ok g8).1 (plain_ix g8)) pa_nil)))) pss_nil))) fun Dn σ H ⟨v, M, rows, w, tp, hσ, hM, hD, P, q⟩ => ?_
    subst hσ
    refine ⟨sz _ (by decide), fun a ha => ?_⟩
    have sa : Same H (upd H a (.lst [])) := same_new ha
    have la : (upd H a (.lst [])) a = some (.lst []) := upd_same
    generalize upd H a (.lst []) = H1 at *
    intro b hb
    have sb : Same H1 (upd H1 b (.dT [])) := same_new hb
    have lb : (upd H1 b (.dT [])) b = some (.dT []) := upd_same
    generalize upd H1 b (.dT []) = H2 at *
    refine ⟨sz _ (show 2 ≤ 16777216 by decide), fun t ht => ?_⟩
    have st : Same H2 (upd H2 t (.tup [.ref a, .ref b])) := same_new ht
    have lt : (upd H2 t (.tup [.ref a, .ref b])) t = some (.tup [.ref a, .ref b]) := upd_same
    generalize upd H2 t (.tup [.ref a, .ref b]) = H3 at *
    have hb0 : H b = none := sa.free hb
    have s03 : Same H H3 := (sa.trans sb).trans st
    have made : Made H3 t a b [] := ⟨lt, ⟨[], st _ _ (sb _ _ la), rfl, fun i c z e => by simp at e⟩, st _ _ lb⟩
    have hD3 : Dt H3 (fun c => ¬ M c) v (.list (rows.map tx)) := sm_dt s03 hD
    refine ⟨.ref t, rfl, H, M, M, [.fr true (.list (rows.map tx)), .no, .no], ⟨rfl, s03, fun c z => ⟨z, fun z2 => ?_⟩, fun c z => ?_, fun i s e => ?_, fun i j m d m' d' a e => ?_⟩, ?_⟩
    · obtain ⟨u, e, _⟩ := hM c z
      rw [e] at z2
      cases z2
    · obtain ⟨u, e, mu⟩ := hM c z
      exact ⟨u, s03 _ _ e, mu⟩
    · match i, e with
      | 0, e => cases e; exact ⟨_, rfl, hD3.wk fun c h => ⟨h, fun z => by cases z⟩⟩
      | 1, e => cases e; trivial
      | 2, e => cases e; trivial
      | i + 3, e => simp at e
    · match i, e with
      | 0, e => cases e
      | 1, e => cases e
      | 2, e => cases e
      | i + 3, e => simp at e
    have ev : evE Γ [.fr true (.list (rows.map tx)), .no, .no] (.bi "list" (.cons (.v 0) .nil)) = .ok (.ow true (.list (rows.map tx))) := by
      simp
    rw [ev]
    intro v4 H4 s4 rv4
    obtain ⟨qa, rfl, hqa, hma, _, ob⟩ := rv4
    cases ob with
    | lst hH4 hx4 =>
      have nab : qa ≠ a ∧ qa ≠ b := ⟨(fun z => by rw [z, st _ _ (sb _ _ la)] at hqa; cases hqa), (fun z => by rw [z, st _ _ lb] at hqa; cases hqa)⟩
      have made4 := made.same s4
      refine ⟨rfl, by decide, t, a, b, [], .ref qa, rows, 0, w, tp, rfl, ⟨made4, dt_txs hH4 (Same.refl _) nab hx4, by omega, P.w9, P.few, P.row, fun r hr i x e n _ => P.tell r hr i x e n, by
        have := Nat.pow_le_pow_right (n := 2) (by decide) P.tp8
        simp only [List.length_nil]
        omega⟩, by have := P.tp8; omega, fun H5 o5 made5 => ?_⟩
      rw [Nat.sub_zero] at made5 ⊢
      have s05 : Same H H5 := fun c u e => o5 c u (fun z => by rw [z, ha] at e; cases e) (fun z => by rw [z, hb0] at e; cases e) (s4 _ _ (s03 _ _ e))
      generalize canon w 0 (setR rows 0) [] = g at *
      obtain ⟨root, nds⟩ := g
      dsimp only at made5 q ⊢
      obtain ⟨m1, ⟨cs, m2, ml, m3⟩, m4⟩ := made5
      refine ⟨.int (root : Int), rfl, .ref t, rfl, H5, fun _ => False, fun _ => False, _, env_no H5 _, ?_⟩
      have e0 : ∀ env : List Sl, evE Γ env (.ki 0) = .ok (.fr false (.int 0)) := fun env => by simp
      rw [e0]
      intro v6 H6 s6 rv6
      have rv6 : Dt H6 _ v6 (.int 0) := rv6
      cases rv6
      refine ⟨t, [.ref a, .ref b], 0, .ref a, rfl, rfl, .inl (.inl (s6 _ _ m1)), rfl, sz _ (show 2 ≤ 16777216 by decide), fun c hc => ?_⟩
      have sc6 : Same H6 (upd H6 c (.tup [.int (root : Int), .ref a])) := same_new hc
      have lc : (upd H6 c (.tup [.int (root : Int), .ref a])) c = some (.tup [.int (root : Int), .ref a]) := upd_same
      generalize upd H6 c (.tup [.int (root : Int), .ref a]) = H7 at *
      have s57 : Same H5 H7 := s6.trans sc6
      refine q (.ref c) H7 (s05.trans s57) ?_
      have mna : ¬ M a := fun z => by
        obtain ⟨u, e, _⟩ := hM a z
        rw [ha] at e
        cases e
      show Dt H7 (Lm H M false) (.ref c) (.tuple [.int (root : Int), .list (nds.map ndD)])
      refine .tup (.inl lc) (.cons (.int _) (.cons (.lst ⟨mna, fun _ => ha⟩ (.inl (s57 _ _ m2)) ?_) .nil))
      have gen : ∀ (cs : List Addr) (ns : List Nd), NdsAt H5 cs ns → Dts H7 (Lm H M false) (cs.map V.ref) (ns.map ndD) := by
        intro cs
        induction cs with
        | nil =>
          intro ns h
          cases ns with
          | nil => exact .nil
          | cons z ns => exact absurd h.1 (by simp)
        | cons c cs ih =>
          intro ns h
          cases ns with
          | nil => exact absurd h.1 (by simp)
          | cons z ns =>
            have h0 := h.2 0 c z rfl rfl
            refine .cons (.tup (.inl (s57 _ _ h0)) (.cons (.int _) (.cons (.int _) (.cons (.int _) .nil)))) (ih ns ⟨by simpa using h.1, fun i c' z' e1 e2 => h.2 (i + 1) c' z' (by simpa using e1) (by simpa using e2)⟩)
      exact gen cs nds ⟨ml, m3⟩
  · cases hc
end
end En

set_option Elab.async false
set_option linter.all false
set_option maxRecDepth 100000
set_option maxHeartbeats 8000000
namespace En
open PySem PySem.Spec PyProof.Rows L2

section
variable {P : Program} {w : World} {K : PySem.W.Frag} {mg : Str → Option Value} {base : Heap}
theorem oks_of {N ps : List Str} {qual : Str} {st : Stmt} {fa : Addr} {cdv : Value} {A : Around} {outer : List Env} {s : Shared} {H : Hp} {E : XK} {k : Nat} {Γ : FT} (S : FnScope N ps (defScope st)) (hr : Room (k + 2) (cxOf (L2.CX P w) P w K mg base N qual (defScope st) fa cdv A outer s H E).A) (blt : Blt mg) (fns : FnsOk P w K mg base k Γ) :
    OkS (cxOf (L2.CX P w) P w K mg base N qual (defScope st) fa cdv A outer s H E) Γ E k (exL []) := by
  have tk : Takes (cxOf (L2.CX P w) P w K mg base N qual (defScope st) fa cdv A outer s H E) (fun c d _ H => E c d H) := takes_of rfl rfl rfl rfl
  exact ⟨⟨rfl, S.nd, by have := hr.un; omega, hr, tk, blt, fns⟩, fun _ => rfl, S.kind, passes_of rfl, (fun x m j p p2 p3 pos hx hg => nomatch hx), rfl, rfl, (fun T h => nomatch h), (fun x h => nomatch h)⟩
theorem node_fn {x qual : Str} {st : Stmt} {fa : Addr} {fd : FuncData} {N ps : List Str} {k : Nat} (F : Fun K x qual st fa fd) (S : FnScope N ps (defScope st)) (hps : ps.length = 4) (hN : N.length = 7) (hc : okNode N (defScope st) (defBody st) = true) (blt : Blt mg) :
    FnOk P w K mg base (L2.CX P w) (k + 3) fa fd ps spNode := by
  refine F.okX S (fun vs H Q E h => h.1.trans hps.symm) fun cdv A outer s H vs Q E hr h => ?_
  obtain ⟨hl, t, a, b, ns, p, x, y, rfl, made, hlen, q⟩ := h
  refine ⟨_, node_body (oks_of (Γ := fun _ => none) S hr blt fun f n g e => nomatch e) (defBody st) hc, t, a, b, ns, p, x, y, ?_, made, hlen, q⟩
  unfold L2.start
  rw [hN]
  rfl
theorem num_fn {qual : Str} {st : Stmt} {fa : Addr} {fd : FuncData} {N ps : List Str} {k : Nat} {Γ : FT} (F : Fun K "number_of" qual st fa fd) (S : FnScope N ps (defScope st)) (hps : ps.length = 3) (hN : N.length = 7) (hc : okNum N (defScope st) (defBody st) = true) (blt : Blt mg) (G : FnsOk P w K mg base k Γ) (hx : M.NextAt Γ)
    (hm : mg "number_of" = some (.ref fa)) (hb : Binds K fd ps []) {fn : Addr} {fdn : FuncData} {psn : List Str} (Fn : FnOk P w K mg base (L2.CX P w) k fn fdn psn spNode) (mn : mg "node_of" = some (.ref fn)) (kn : PySem.W.keepIn K (.ref fn) = true) (bn : Binds K fdn psn []) :
    ∀ n, FnOk P w K mg base (L2.CX P w) (k + 3 * (n + 1)) fa fd ps (spNum n)
  | 0 => F.okX S (fun vs H Q E h => h.1.trans hps.symm) fun cdv A outer s H vs Q E hr h => absurd rfl h.2.1
  | n + 1 => by
    have Fs := num_fn F S hps hN hc blt G hx hm hb Fn mn kn bn n
    rw [show k + 3 * (n + 1 + 1) = k + 3 * (n + 1) + 3 by omega]
    refine F.okX S (fun vs H Q E h => h.1.trans hps.symm) fun cdv A outer s H vs Q E hr h => ?_
    obtain ⟨hl, hne, t, a, b, ns, v1, rows, p, w', tp, rfl, Pr, htp, q⟩ := h
    have G' : FnsOk P w K mg base (k + 3 * (n + 1)) Γ := fun f n' g e => by
      obtain ⟨fa, fd, ps, F3, z⟩ := G f n' g e
      exact ⟨fa, fd, ps, F3.mono (by omega), z⟩
    refine ⟨_, num_body (oks_of S hr blt G') hx n Fs hm F.kp hb (Fn.mono (by omega)) mn kn bn (defBody st) hc, t, a, b, ns, v1, rows, p, w', tp, ?_, Pr, htp, q⟩
    unfold L2.start
    rw [hN]
    rfl
theorem graph_fn {x qual : Str} {st : Stmt} {fa : Addr} {fd : FuncData} {N ps : List Str} {k : Nat} (F : Fun K x qual st fa fd) (S : FnScope N ps (defScope st)) (hps : ps.length = 1) (hN : N.length = 3) (hc : okGraph N (defScope st) (defBody st) = true) (blt : Blt mg)
    {fs : Addr} {fds : FuncData} {pss : List Str} (Fs : FnOk P w K mg base (L2.CX P w) k fs fds pss (spNum 9)) (ms : mg "number_of" = some (.ref fs)) (ks : PySem.W.keepIn K (.ref fs) = true) (bs : Binds K fds pss []) :
    FnOk P w K mg base (L2.CX P w) (k + 3) fa fd ps (spG mg 1 graphG) := by
  refine F.okX S (fun vs H Q E h => h.1.trans hps.symm) fun cdv A outer s H vs Q E hr h => ?_
  obtain ⟨hl, M, ds, hM, hD, h⟩ := h
  by_cases hex : ∃ (rows : List Tx) (w : Nat) (tp : List Nat), ds = [.list (rows.map tx)] ∧ GraphPre rows w tp
  · obtain ⟨rows, w', tp, rfl, Pr⟩ := hex
    rw [graphG_eq Pr] at h
    obtain ⟨v, rfl⟩ : ∃ v, vs = [v] := by
      match vs, hl with
      | [a], _ => exact ⟨a, rfl⟩
    refine ⟨_, graph_body (oks_of (Γ := fun _ => none) S hr blt fun f n g e => nomatch e) Fs ms ks bs (defBody st) hc, v, M, rows, w', tp, ?_, hM, ?_, Pr, fun u H' s rv => h u H' s rv⟩
    · unfold L2.start
      rw [hN]
      rfl
    · cases hD with
      | cons t _ => exact t
  · unfold graphG at h
    rw [dif_neg hex] at h
    exact h.elim
theorem fns_graph {stn stu st : Stmt} {Nn Nu N psn psu ps : List Str} {k : Nat} {Γ : FT} (G : FnsOk P w K mg base k Γ) (hx : M.NextAt Γ) (blt : Blt mg)
    (hn : Has K mg "node_of" stn psn) (Sn : FnScope Nn psn (defScope stn)) (n1 : psn.length = 4) (n2 : Nn.length = 7) (n3 : okNode Nn (defScope stn) (defBody stn) = true)
    (hu : Has K mg "number_of" stu psu) (Su : FnScope Nu psu (defScope stu)) (u1 : psu.length = 3) (u2 : Nu.length = 7) (u3 : okNum Nu (defScope stu) (defBody stu) = true)
    (h : Has K mg "graph_of" st ps) (S : FnScope N ps (defScope st)) (g1 : ps.length = 1) (g2 : N.length = 3) (g3 : okGraph N (defScope st) (defBody st) = true) :
    FnsOk P w K mg base (k + 36) (put Γ "graph_of" 1 graphG) := by
  obtain ⟨fn, fdn, Fn, mn, bn⟩ := hn
  obtain ⟨fu, fdu, Fu, mu, bu⟩ := hu
  obtain ⟨fa, fd, F, hm, hb⟩ := h
  have Fn2 : FnOk P w K mg base (L2.CX P w) (k + 3) fn fdn psn spNode := node_fn Fn Sn n1 n2 n3 blt
  have G' : FnsOk P w K mg base (k + 3) Γ := fun f n' g e => by
    obtain ⟨fa, fd, ps, F3, z⟩ := G f n' g e
    exact ⟨fa, fd, ps, F3.mono (by omega), z⟩
  have Fu2 := num_fn Fu Su u1 u2 u3 blt G' hx mu bu Fn2 mn Fn.kp bn 9
  have F2 := graph_fn F S g1 g2 g3 blt Fu2 mu Fu.kp bu
  intro f n' g' e
  unfold put at e
  split at e
  · rename_i e1
    subst e1
    cases e
    exact ⟨fa, fd, ps, F2, hm, F.kp, hb⟩
  · obtain ⟨fa, fd, ps, F3, q⟩ := G f n' g' e
    exact ⟨fa, fd, ps, F3.mono (by omega), q⟩
end
end En

set_option Elab.async false
set_option linter.all false
set_option maxRecDepth 100000
set_option maxHeartbeats 4000000
namespace En
open PySem L2

theorem nc_int (i : Int) : Nc 0 (.int i : D) := ⟨by simp [PyData.canLay0], by simp [PyData.depth]⟩
theorem nc_nd (z : Nd) : Nc 1 (ndD z) := nc_tup fun d hd => by
  simp only [List.mem_cons, List.not_mem_nil, or_false] at hd
  rcases hd with rfl | rfl | rfl <;> exact nc_int _
theorem nc_gr (g : Nat × List Nd) : Nc 3 (grD g) := nc_tup (k := 2) fun d hd => by
  simp only [List.mem_cons, List.not_mem_nil, or_false] at hd
  rcases hd with rfl | rfl
  · exact ⟨(nc_int _).1, Nat.le_trans (nc_int _).2 (by decide)⟩
  · exact nc_list (k := 1) fun d hd => by
      obtain ⟨z, _, rfl⟩ := List.mem_map.mp hd
      exact nc_nd z
theorem nd_eqv (z y : Nd) : PyData.eqv (ndD z) (ndD y) = decide (z = y) := by
  obtain ⟨a, b, c⟩ := z
  obtain ⟨a', b', c'⟩ := y
  rw [Bool.eq_iff_iff]
  simp [ndD, PyData.eqv, PyData.eqvAll]
  omega
theorem nds_eqv : ∀ (A B : List Nd), PyData.eqvAll (A.map ndD) (B.map ndD) = decide (A = B)
  | [], [] => rfl
  | [], _ :: _ => by simp [PyData.eqvAll]
  | _ :: _, [] => by simp [PyData.eqvAll]
  | a :: A, b :: B => by
    rw [List.map_cons, List.map_cons, PyData.eqvAll, nd_eqv, nds_eqv A B, Bool.eq_iff_iff]
    simp
theorem eq_gr (g h : Nat × List Nd) : eqO (grD g) (grD h) = some (decide (g = h)) := by
  have e : (shp (grD g) && shp (grD h)) = true := by rw [(nc_gr g).shp (by decide), (nc_gr h).shp (by decide)]; rfl
  show (if (shp (grD g) && shp (grD h)) = true then some (PyData.eqv (grD g) (grD h)) else none) = _
  rw [if_pos e]
  congr 1
  obtain ⟨a, A⟩ := g
  obtain ⟨b, B⟩ := h
  rw [Bool.eq_iff_iff]
  have := nds_eqv A B
  simp [grD, PyData.eqv, PyData.eqvAll, this]
  intro _
  omega
@[simp] theorem isi_gr (g : Nat × List Nd) : semIsi (grD g) "tuple" = some true := rfl
@[simp] theorem imm_gr (g : Nat × List Nd) : imm (grD g) = false := rfl
namespace M
end M
end En

set_option Elab.async false
set_option linter.all false
set_option maxRecDepth 100000
set_option maxHeartbeats 4000000
namespace En
open PySem PySem.Spec PyProof.Rows L2

/-! ### a def that calls itself, to a depth -/
section
variable {P : Program} {w : World} {K : PySem.W.Frag} {mg : Str → Option Value} {base : Heap}
end
/-! ### how deep a graph is -/
inductive Dep (ns : List Nd) (w : Nat) (tp : List Nat) : Nat → Nat → Nat → Prop
  | no {p n : Nat} : Dep ns w tp p n 0
  | yes {p n : Nat} : Dep ns w tp p n 1
  | node {p n k q a b : Nat} : ns[k]? = some (q, a, b) → p ≤ q → q < w → q ∈ tp → a ≠ b → Dep ns w tp (q + 1) n a → Dep ns w tp (q + 1) n b → Dep ns w tp p (n + 1) (k + 2)
theorem Dep.up {ns : List Nd} {w : Nat} {tp : List Nat} {p n k : Nat} (h : Dep ns w tp p n k) : ∀ {p' n' : Nat}, p' ≤ p → n ≤ n' → Dep ns w tp p' n' k := by
  induction h with
  | no => exact fun _ _ => .no
  | yes => exact fun _ _ => .yes
  | node e h1 h2 h3 h4 _ _ i1 i2 =>
    intro p' n' hp hn
    obtain ⟨m, rfl⟩ : ∃ m, n' = m + 1 := ⟨n' - 1, by omega⟩
    exact .node e (by omega) h2 h3 h4 (i1 (Nat.le_refl _) (by omega)) (i2 (Nat.le_refl _) (by omega))
theorem Dep.more {ns more : List Nd} {w : Nat} {tp : List Nat} {p n k : Nat} (h : Dep ns w tp p n k) : Dep (ns ++ more) w tp p n k := by
  induction h with
  | no => exact .no
  | yes => exact .yes
  | node e h1 h2 h3 h4 _ _ i1 i2 => exact .node (get_pre e) h1 h2 h3 h4 i1 i2
theorem canon_dep {w : Nat} {all : List Nat} : ∀ (n : Nat) (tp : List Nat) (p : Nat) (rows : List Tx) (ns : List Nd), tp.length ≤ n → p ≤ w → (∀ r ∈ rows, Row w r) → (∀ r ∈ rows, ∀ i x : Nat, r[i]? = some x → x ≠ 45 → p ≤ i → i ∈ tp) → (∀ i ∈ tp, i ∈ all) →
    Dep (canon (w - p) p (setR rows p) ns).2 w all p n (canon (w - p) p (setR rows p) ns).1 := by
  intro n
  induction n with
  | zero =>
    intro tp p rows ns hn hp hr ht ha
    by_cases h0 : rows = []
    · rw [canon_no fun l _ _ => by rw [h0]; rintro ⟨r, h, _⟩; cases h]
      exact .no
    · obtain ⟨r, hm⟩ := List.exists_mem_of_ne_nil _ h0
      have hl := (hr r hm).1
      have nl := next_le (r := r) (p := p) (by omega)
      by_cases hq : nextT r p = w
      · rw [setR_all hp hm hl hq]
        exact .yes
      · have hin := here_in (here := nextT r p) hr (by omega) (next_ge r p) ht ⟨r, hm, rfl⟩
        have := List.length_pos_of_mem hin
        omega
  | succ n ih =>
    intro tp p rows ns hn hp hr ht ha
    by_cases h0 : rows = []
    · rw [canon_no fun l _ _ => by rw [h0]; rintro ⟨r, h, _⟩; cases h]
      exact .no
    by_cases h1 : ∃ r ∈ rows, nextT r p = w
    · obtain ⟨r, hm, hq⟩ := h1
      rw [setR_all hp hm (hr r hm).1 hq]
      exact .yes
    · obtain ⟨m, hm1, hm2, _⟩ := min_nats (l := rows.map fun r => nextT r p) (by simpa using h0)
      obtain ⟨r0, hr0, e0⟩ := List.mem_map.mp hm1
      have hl0 := (hr r0 hr0).1
      have nl := next_le (r := r0) (p := p) (by omega)
      have hlt : m < w := by
        have : nextT r0 p ≠ w := fun z => h1 ⟨r0, hr0, z⟩
        omega
      have hge : p ≤ m := by rw [← e0]; exact next_ge r0 p
      have hin := here_in hr hlt hge ht ⟨r0, hr0, e0⟩
      have al := above_lt hin
      have aa : ∀ i ∈ above tp m, i ∈ all := fun i hi => ha i (List.mem_filter.mp hi).1
      have i0 := ih (above tp m) (m + 1) (goR rows m 49) ns (by omega) (by omega) (goR_row hr) (above_tell hge ht) aa
      have i1 := ih (above tp m) (m + 1) (goR rows m 48) (canon (w - (m + 1)) (m + 1) (setR (goR rows m 49) (m + 1)) ns).2 (by omega) (by omega) (goR_row hr) (above_tell hge ht) aa
      obtain ⟨m2, e2⟩ := canon_pre (w - (m + 1)) (m + 1) (setR (goR rows m 48) (m + 1)) (canon (w - (m + 1)) (m + 1) (setR (goR rows m 49) (m + 1)) ns).2
      rw [canon_step hr hge hlt fun r h => hm2 _ (List.mem_map_of_mem h)]
      have j0 := i0.more (more := m2)
      rw [← e2] at j0
      generalize canon (w - (m + 1)) (m + 1) (setR (goR rows m 48) (m + 1)) (canon (w - (m + 1)) (m + 1) (setR (goR rows m 49) (m + 1)) ns).2 = B at *
      generalize (canon (w - (m + 1)) (m + 1) (setR (goR rows m 49) (m + 1)) ns).1 = a at *
      obtain ⟨b, N⟩ := B
      dsimp only at i1 j0 ⊢
      by_cases hab : a = b
      · subst hab
        rw [node_same]
        exact j0.up (by omega) (by omega)
      · obtain ⟨k, e, hk⟩ := node_at (ns := N) (p := m) hab
        obtain ⟨m3, e3⟩ := node_pre N m a b
        rw [e]
        refine .node hk hge hlt (ha m hin) hab ?_ ?_
        · rw [e3]; exact j0.more
        · rw [e3]; exact i1.more
/-! ### all ways to 1 -/
end En

set_option Elab.async false
set_option linter.all false
set_option maxRecDepth 100000
set_option maxHeartbeats 4000000
namespace En
open PySem L2

/-! ### the least letter -/
namespace M
end M
end En

set_option Elab.async false
set_option linter.all false
set_option maxRecDepth 100000
set_option maxHeartbeats 4000000
namespace En
open PySem L2

namespace M
theorem semIx0 (g : Nat × List Nd) : semIx (grD g) (.int 0) = some (.int (g.1 : Int)) := rfl
theorem semIx1 (g : Nat × List Nd) : semIx (grD g) (.int 1) = some (.list (g.2.map ndD)) := rfl
end M
end En

set_option Elab.async false
set_option linter.all false
set_option maxRecDepth 100000
set_option maxHeartbeats 4000000
namespace En
open PySem L2

/-! ### a graph's nodes: what holds of their list -/
structure Inv (w : Nat) (ns : List Nd) : Prop where
  nd : ns.Nodup
  pl : ∀ (k q a b : Nat), ns[k]? = some (q, a, b) → q < w ∧ a ≠ b ∧ a ≤ k + 1 ∧ b ≤ k + 1
  no : ∀ (k q a b j : Nat) (z : Nd), ns[k]? = some (q, a, b) → a = j + 2 → ns[j]? = some z → q < z.1
  yes : ∀ (k q a b j : Nat) (z : Nd), ns[k]? = some (q, a, b) → b = j + 2 → ns[j]? = some z → q < z.1
def toldT (n : Nat) : List Nat := (List.range n).map (2 + ·)
theorem told_mem {n x : Nat} : x ∈ toldT n ↔ 2 ≤ x ∧ x < n + 2 := by
  unfold toldT
  rw [List.mem_map]
  constructor
  · rintro ⟨i, hi, rfl⟩
    have := List.mem_range.mp hi
    omega
  · rintro ⟨h1, h2⟩
    exact ⟨x - 2, List.mem_range.mpr (by omega), by omega⟩
theorem told_succ (n : Nat) : toldT (n + 1) = toldT n ++ [n + 2] := by
  unfold toldT
  rw [List.range_succ, List.map_append]
  simp [Nat.add_comm]
/-- the way through a graph: no, yes, the node -/
inductive WkN (ns : List Nd) : Nat → List Nat → List Nat → Prop
  | e {r : Nat} {L : List Nat} : r ≤ 1 → WkN ns r L L
  | s {r : Nat} {L : List Nat} : r ∈ L → WkN ns r L L
  | n {k q a b : Nat} {L L1 L2 : List Nat} : ns[k]? = some (q, a, b) → k + 2 ∉ L → WkN ns a L L1 → WkN ns b L1 L2 → WkN ns (k + 2) L (L2 ++ [k + 2])
theorem WkN.told {ns : List Nd} {r m : Nat} (h : r ≤ m + 1) : WkN ns r (toldT m) (toldT m) := by
  by_cases h1 : r ≤ 1
  · exact .e h1
  · exact .s (told_mem.mpr (by omega))
theorem canon_inv {w : Nat} : ∀ (n p : Nat) (f : Tx → Prop) (ns : List Nd), Inv w ns → p + n = w →
    Inv w (canon n p f ns).2 ∧ (canon n p f ns).1 ≤ (canon n p f ns).2.length + 1 ∧ (∀ (k : Nat) (z : Nd), ns.length ≤ k → (canon n p f ns).2[k]? = some z → p ≤ z.1) ∧ (∀ (j : Nat) (z : Nd), (canon n p f ns).1 = j + 2 → (canon n p f ns).2[j]? = some z → p ≤ z.1) ∧
      ((canon n p f ns).1 ≤ ns.length + 1 → (canon n p f ns).2 = ns) ∧ ∀ more, WkN ((canon n p f ns).2 ++ more) (canon n p f ns).1 (toldT ns.length) (toldT (canon n p f ns).2.length)
  | 0, p, f, ns, I, hp => by
    have e : (canon 0 p f ns).2 = ns ∧ (canon 0 p f ns).1 ≤ 1 := by
      simp only [canon]
      by_cases h : f [] <;> simp [h]
    obtain ⟨e2, e1⟩ := e
    refine ⟨by rw [e2]; exact I, by omega, fun k z hk h => ?_, fun j z h => by omega, fun _ => e2, fun more => ?_⟩
    · rw [e2, List.getElem?_eq_none (by omega)] at h
      cases h
    · rw [e2]
      exact .e e1
  | n + 1, p, f, ns, I, hp => by
    have A := canon_inv n (p + 1) (fun l => f (48 :: l)) ns I (by omega)
    have B := canon_inv n (p + 1) (fun l => f (49 :: l)) (canon n (p + 1) (fun l => f (48 :: l)) ns).2 A.1 (by omega)
    obtain ⟨m1, h1⟩ := canon_pre n (p + 1) (fun l => f (48 :: l)) ns
    obtain ⟨m2, h2⟩ := canon_pre n (p + 1) (fun l => f (49 :: l)) (canon n (p + 1) (fun l => f (48 :: l)) ns).2
    simp only [canon]
    generalize canon n (p + 1) (fun l => f (49 :: l)) (canon n (p + 1) (fun l => f (48 :: l)) ns).2 = Bc at *
    generalize canon n (p + 1) (fun l => f (48 :: l)) ns = Ac at *
    obtain ⟨a, N1⟩ := Ac
    obtain ⟨b, N2⟩ := Bc
    dsimp only at *
    obtain ⟨A1, A2, A3, A4, A5, A6⟩ := A
    obtain ⟨B1, B2, B3, B4, B5, B6⟩ := B
    have l1 : ns.length ≤ N1.length := by rw [h1]; simp
    have l2 : N1.length ≤ N2.length := by rw [h2]; simp
    have gA : ∀ (j : Nat) (z : Nd), j < N1.length → N2[j]? = some z → N1[j]? = some z := fun j z hj h => by
      rw [h2, List.getElem?_append_left hj] at h
      exact h
    have pA : ∀ (j : Nat) (z : Nd), a = j + 2 → N2[j]? = some z → p + 1 ≤ z.1 := fun j z ha h => A4 j z ha (gA j z (by omega) h)
    have pN : ∀ (k : Nat) (z : Nd), ns.length ≤ k → N2[k]? = some z → p + 1 ≤ z.1 := fun k z hk h => by
      by_cases hk2 : N1.length ≤ k
      · exact B3 k z hk2 h
      · exact A3 k z hk (gA k z (by omega) h)
    by_cases hab : a = b
    · subst hab
      rw [node_same]
      have e := B5 (by omega)
      subst e
      refine ⟨B1, B2, fun k z hk h => (by have := pN k z hk h; omega), fun j z hj h => (by have := B4 j z hj h; omega), fun h => A5 h, A6⟩
    · cases hf : N2.findIdx? fun z => decide (z = (p, a, b)) with
      | some i =>
        have hn : nodeN N2 p a b = (i + 2, N2) := by unfold nodeN; rw [if_neg hab, hf]
        rw [hn]
        obtain ⟨hi, g1, _⟩ := List.findIdx?_eq_some_iff_getElem.mp hf
        simp only [decide_eq_true_eq] at g1
        have ge : N2[i]? = some (p, a, b) := by rw [List.getElem?_eq_getElem hi, g1]
        have hin : i < ns.length := by
          refine Classical.byContradiction fun hc => ?_
          have := pN i _ (by omega) ge
          dsimp only at this
          omega
        have pl := B1.pl i p a b ge
        have e1 := A5 (by omega)
        subst e1
        have e2 := B5 (by omega)
        subst e2
        dsimp only
        exact ⟨B1, by omega, fun k z hk h => (by rw [List.getElem?_eq_none hk] at h; cases h), fun j z hj h => (by
          have : j = i := by omega
          subst this
          rw [ge] at h
          cases h
          exact Nat.le_refl _), fun _ => rfl, fun more => WkN.told (by omega)⟩
      | none =>
        have hn : nodeN N2 p a b = (N2.length + 2, N2 ++ [(p, a, b)]) := by unfold nodeN; rw [if_neg hab, hf]
        rw [hn]
        dsimp only
        have hnot : (p, a, b) ∉ N2 := fun hm => by
          have := List.findIdx?_eq_none_iff.mp hf _ hm
          simp at this
        have old : ∀ (j : Nat) (z : Nd), j < N2.length → (N2 ++ [(p, a, b)])[j]? = some z → N2[j]? = some z := fun j z hj h => by
          rw [List.getElem?_append_left hj] at h
          exact h
        have at_ : ∀ (k : Nat) (z : Nd), (N2 ++ [(p, a, b)])[k]? = some z → N2[k]? = some z ∨ (k = N2.length ∧ z = (p, a, b)) := fun k z h => by
          by_cases hk : k < N2.length
          · exact .inl (old k z hk h)
          · have hk2 := (List.getElem?_eq_some_iff.mp h).1
            rw [List.length_append, List.length_singleton] at hk2
            have : k = N2.length := by omega
            subst this
            rw [List.getElem?_append_right (Nat.le_refl _), Nat.sub_self] at h
            cases h
            exact .inr ⟨rfl, rfl⟩
        refine ⟨⟨?_, fun k q x y h => ?_, fun k q x y j z h hj hz => ?_, fun k q x y j z h hj hz => ?_⟩, by simp, fun k z hk h => ?_, fun j z hj h => ?_, fun h => ?_, fun more => ?_⟩
        · rw [List.nodup_append]
          exact ⟨B1.nd, List.pairwise_singleton _ _, fun x hx y hy e => hnot (by rw [← List.mem_singleton.mp hy, ← e]; exact hx)⟩
        · rcases at_ k _ h with h | ⟨e0, h3⟩
          · exact B1.pl k q x y h
          · subst e0
            cases h3
            exact ⟨by omega, hab, by omega, by omega⟩
        · rcases at_ k _ h with h | ⟨e0, h3⟩
          · have hk := (List.getElem?_eq_some_iff.mp h).1
            have := B1.pl k q x y h
            exact B1.no k q x y j z h hj (old j z (by omega) hz)
          · subst e0
            cases h3
            have := pA j z hj (old j z (by omega) hz)
            omega
        · rcases at_ k _ h with h | ⟨e0, h3⟩
          · have hk := (List.getElem?_eq_some_iff.mp h).1
            have := B1.pl k q x y h
            exact B1.yes k q x y j z h hj (old j z (by omega) hz)
          · subst e0
            cases h3
            have := B4 j z hj (old j z (by omega) hz)
            omega
        · rcases at_ k z h with h | ⟨_, h⟩
          · have := pN k z hk h
            omega
          · subst h
            exact Nat.le_refl _
        · rcases at_ j z h with h | ⟨_, h⟩
          · have := (List.getElem?_eq_some_iff.mp h).1
            omega
          · subst h
            exact Nat.le_refl _
        · omega
        · have w1 := A6 (m2 ++ [(p, a, b)] ++ more)
          have w2 := B6 ([(p, a, b)] ++ more)
          have e : N2 ++ [(p, a, b)] ++ more = N1 ++ (m2 ++ [(p, a, b)] ++ more) := by rw [h2]; simp
          have e2 : N2 ++ [(p, a, b)] ++ more = N2 ++ ([(p, a, b)] ++ more) := by simp
          rw [List.length_append, List.length_singleton, told_succ]
          refine .n (k := N2.length) (q := p) (a := a) (b := b) ?_ (fun hm => ?_) (by rw [e]; exact w1) (by rw [e2]; exact w2)
          · rw [e2, List.getElem?_append_right (Nat.le_refl _), Nat.sub_self]
            rfl
          · have := told_mem.mp hm
            omega
theorem inv_nil (w : Nat) : Inv w [] := ⟨List.nodup_nil, fun k q a b h => by simp at h, fun k q a b j z h => by simp at h, fun k q a b j z h => by simp at h⟩
/-- a graph as it is told -/
structure Fit (g : Nat × List Nd) (w : Nat) (tp : List Nat) : Prop where
  w9 : w ≤ 900
  dep : Dep g.2 w tp 0 8 g.1
  inv : Inv w g.2
  root : g.1 ≤ g.2.length + 1
  wk : WkN g.2 g.1 [] (toldT g.2.length)
  few : g.2.length ≤ 2 ^ 10
theorem canon_fit {w : Nat} {ps : List Nat} {rows : List Tx} (hw : w ≤ 900) (hp : ps.length ≤ 8) (ro : ∀ r ∈ rows, Row w r) (te : ∀ r ∈ rows, ∀ i x : Nat, r[i]? = some x → x ≠ 45 → i ∈ ps) : Fit (canon w 0 (setR rows 0) []) w ps := by
  have dep := canon_dep (w := w) (all := ps) 8 ps 0 rows [] hp (Nat.zero_le _) ro (fun r hr i x e n _ => te r hr i x e n) fun i h => h
  rw [Nat.sub_zero] at dep
  obtain ⟨h1, h2, _, _, _, h6⟩ := canon_inv w 0 (setR rows 0) [] (inv_nil w) (Nat.zero_add w)
  have h6 := h6 []
  rw [List.append_nil] at h6
  have gr := grow (w := w) ps.length ps 0 rows [] (Nat.le_refl _) (Nat.zero_le _) ro fun r hr i x e n _ => te r hr i x e n
  rw [Nat.sub_zero] at gr
  have p8 := Nat.pow_le_pow_right (n := 2) (by decide) hp
  refine ⟨hw, dep, h1, h2, h6, ?_⟩
  simp at gr
  omega
end En

set_option Elab.async false
set_option linter.all false
set_option maxRecDepth 100000
set_option maxHeartbeats 4000000
namespace En
open PySem PySem.Spec PyProof.Rows L2

/-! ### the walk that writes down what it has gone through: the list is the caller's -/
def Keep (a : Addr) (H H' : Hp) : Prop := ∀ c u, c ≠ a → H c = some u → H' c = some u
theorem Keep.of {a : Addr} {H H' : Hp} (s : Same H H') : Keep a H H' := fun c u _ e => s c u e
theorem Keep.trans {a : Addr} {H H1 H2 : Hp} (x : Keep a H H1) (y : Keep a H1 H2) : Keep a H H2 := fun c u h e => y c u h (x c u h e)
theorem WkN.len {ns : List Nd} {r : Nat} {L L' : List Nat} (h : WkN ns r L L') : L.length ≤ L'.length := by
  induction h with
  | e => exact Nat.le_refl _
  | s => exact Nat.le_refl _
  | n _ _ _ _ i1 i2 => rw [List.length_append]; omega
section
variable {Γ : FT} {k : Nat}
end
end En

set_option Elab.async false
set_option linter.all false
set_option maxRecDepth 100000
set_option maxHeartbeats 4000000
namespace En
open PySem L2

theorem nd0 (z : Nd) : semIx (ndD z) (.int 0) = some (.int (z.1 : Int)) := rfl
theorem nd1 (z : Nd) : semIx (ndD z) (.int 1) = some (.int (z.2.1 : Int)) := rfl
theorem nd2 (z : Nd) : semIx (ndD z) (.int 2) = some (.int (z.2.2 : Int)) := rfl
theorem mk_nd (m : Bool) (z : Nd) : mk m false (ndD z) = .fr m (ndD z) := by cases m <;> rfl
namespace M
def lawEnd : MF := ⟨4, (.cons (.set 2 (.ix (.v 0) (.ki 0)) false) (.cons (.for_ (.n 3) (.r1 (.bin .Add (.bi "len" (.cons (.v 1) .nil)) (.ki 1))) (.cons (.ife (.cmp .Gt (.v 2) (.ki 1)) (.cons (.set 2 (.ix (.ix (.ix (.v 0) (.ki 1)) (.bin .Sub (.v 2) (.ki 2))) (.bin .Add (.ki 1) (.bi "int" (.cons (.ix (.v 1) (.ix (.ix (.ix (.v 0) (.ki 1)) (.bin .Sub (.v 2) (.ki 2))) (.ki 0))) .nil)))) false) .nil) .nil) .nil)) (.cons (.ret (.v 2)) .nil)))⟩
theorem lawEnd_ok {Γ : FT} {n : Nat} {X : Str → Prop} {K : Rv → Prop} {g : Nat × List Nd} {w : Nat} {tp : List Nat} {l : Tx} {v : Bool} (hw : w ≤ 900) (hl : Ltr w l) (h : Dep g.2 w tp 0 8 g.1) (hv : Ev g.2 l g.1 v) (q : ∀ m, K (.fr m (.int (if v then 1 else 0)))) : RS X (runF Γ n lawEnd [grD g, tx l]) K := by
  have hl1 := hl.1
  have wl : ((w : Int) + 1) = ((w + 1 : Nat) : Int) := by omega
  have rg : rg1 (.int ((w + 1 : Nat) : Int)) = .ok (false, rngD 0 (w + 1)) := rg1_nat (w + 1) (by omega)
  refine rs_run ?_
  simp [lawEnd, startE, semIx0]
  rw [len_tx (l := l) (sz _ (show l.length ≤ 16777216 by omega)), hl1]
  refine rs_imp (show RS X (lift false (some (false, .int (w : Int)))) fun a => a = .fr false (.int (w : Int)) from by simp) ?_
  rintro _ rfl
  refine rs_imp (show RS X (lift false (semBin .Add (.int (w : Int)) (.int 1))) fun a => a = .fr false (.int ((w + 1 : Nat) : Int)) from by simp) ?_
  rintro _ rfl
  refine rs_imp (show RS X (rg1 (.int ((w + 1 : Nat) : Int))) fun a => a = (false, rngD 0 (w + 1)) from by rw [rg]; simp) ?_
  rintro _ rfl
  obtain ⟨I, hI⟩ : ∃ I : Nat → List Sl → Prop, ∀ i e, I i e = ∃ (s3 : Sl) (m0 m1 m2 : Bool) (j m : Nat), e = [.fr m0 (grD g), .fr m1 (tx l), .fr m2 (.int (j : Int)), s3] ∧ Dep g.2 w tp i m j ∧ Ev g.2 l j v := ⟨_, fun _ _ => rfl⟩
  refine fs_for I ?_ (fun i d e hd h => ?_) (fun e h => ?_)
  · rw [hI]
    exact ⟨_, _, _, _, g.1, 8, rfl, h, hv⟩
  · rw [hI] at h
    obtain ⟨s3, m0, m1, m2, j, m, rfl, hd2, hev⟩ := h
    cases hd2 with
    | no =>
      simp
      rw [hI]
      exact ⟨_, _, _, _, 0, m, rfl, .no, hev⟩
    | yes =>
      simp
      rw [hI]
      exact ⟨_, _, _, _, 1, m, rfl, .yes, hev⟩
    | @node p n k2 q a b e h1 h2 h3 h4 da db =>
      have ix : semIx (.list (g.2.map ndD)) (.int (k2 : Int)) = some (ndD (q, a, b)) := ix_list (by rw [List.getElem?_map, e]; rfl)
      have kk : (((k2 + 2 : Nat) : Int) - 2) = (k2 : Int) := by omega
      have hk1 : (1 : Int) < ((k2 + 2 : Nat) : Int) := by omega
      have hql : q < l.length := by omega
      have lq := List.getElem?_eq_getElem hql
      have bt := hl.2 _ (List.getElem_mem hql)
      have il := ix_tx (sz _ (show l.length ≤ 16777216 by omega)) lq
      cases hev with
      | @node _ p' a' b' _ e' f1 f0 =>
      rw [e] at e'
      cases e'
      generalize l[q] = c at *
      generalize hK : ((k2 + 2 : Nat) : Int) = jj at *
      have d0 : s_int [tx [48]] = some (false, .int 0) := rfl
      have d1 : s_int [tx [49]] = some (false, .int 1) := rfl
      rcases bt with rfl | rfl
      · simp [hk1, kk, semIx1, mk_nd, ix, nd0, nd1, nd2, il, d0, d1]
        rw [hI]
        exact ⟨_, _, _, _, a, n, rfl, da.up (by omega) (Nat.le_refl _), f0 (by rw [lq]; simp)⟩
      · simp [hk1, kk, semIx1, mk_nd, ix, nd0, nd1, nd2, il, d0, d1]
        rw [hI]
        exact ⟨_, _, _, _, b, n, rfl, db.up (by omega) (Nat.le_refl _), f1 lq⟩
  · rw [hI] at h
    obtain ⟨s3, m0, m1, m2, j, m, rfl, hd2, hev⟩ := h
    have lr : (rngD 0 (w + 1)).length = w + 1 := by simp [rngD]
    rw [lr] at hd2
    cases hd2 with
    | no =>
      cases hev
      simp
      exact q _
    | yes =>
      cases hev
      simp
      exact q _
    | node e h1 h2 => omega
end M
end En

set_option Elab.async false
set_option linter.all false
set_option maxRecDepth 100000
set_option maxHeartbeats 4000000
namespace En
open PySem PySem.Spec PyProof.Rows L2

/-! ### whether a graph fits: its walk is by hand -/
namespace M
end M
open Classical in
section
variable {Γ : FT} {k : Nat}
end
section
variable {P : Program} {w : World} {K : PySem.W.Frag} {mg : Str → Option Value} {base : Heap}
end
end En

set_option Elab.async false
set_option linter.all false
set_option maxRecDepth 100000
set_option maxHeartbeats 4000000
namespace En
open PySem L2

/-! ### two graphs blended: what is told -/
theorem Ev.agree {ns : List Nd} {w : Nat} {tp : List Nat} {p d x : Nat} (D : Dep ns w tp p d x) : ∀ {l l' : Tx} {v : Bool}, (∀ i : Nat, p ≤ i → l[i]? = l'[i]?) → Ev ns l x v → Ev ns l' x v := by
  induction D with
  | no => exact fun _ h => by cases h; exact .no
  | yes => exact fun _ h => by cases h; exact .yes
  | @node p n k q a b e h1 h2 h3 h4 da db i1 i2 =>
    intro l l' v ha h
    cases h with
    | @node _ p' a' b' _ e' f1 f0 =>
      rw [e] at e'
      cases e'
      have hq := ha q h1
      exact .node e (fun z => i2 (fun i hi => ha i (by omega)) (f1 (by rw [hq]; exact z))) fun z => i1 (fun i hi => ha i (by omega)) (f0 (by rw [hq]; exact z))
theorem Dep.ev {ns : List Nd} {w : Nat} {tp : List Nat} {p d x : Nat} (D : Dep ns w tp p d x) (l : Tx) : ∃ v, Ev ns l x v := by
  induction D with
  | no => exact ⟨_, .no⟩
  | yes => exact ⟨_, .yes⟩
  | @node p n k q a b e h1 h2 h3 h4 da db i1 i2 =>
    obtain ⟨v1, e1⟩ := i1
    obtain ⟨v2, e2⟩ := i2
    by_cases hl : l[q]? = some 49
    · exact ⟨v2, .node e (fun _ => e2) fun z => absurd hl z⟩
    · exact ⟨v1, .node e (fun z => absurd z hl) fun _ => e1⟩
theorem Dep.above {ns : List Nd} {w : Nat} {tp : List Nat} {p d x : Nat} (D : Dep ns w tp p d x) : ∀ {q : Nat}, q < p → Dep ns w (above tp q) p d x := by
  induction D with
  | no => exact fun _ => .no
  | yes => exact fun _ => .yes
  | @node p n k q a b e h1 h2 h3 h4 da db i1 i2 =>
    intro z hz
    exact .node e h1 h2 (List.mem_filter.mpr ⟨h3, decide_eq_true (by omega)⟩) h4 (i1 (by omega)) (i2 (by omega))
/-- a number's letters behind p places -/
def Fz (ns : List Nd) (x p : Nat) (s : Tx) : Prop := Ev ns (List.replicate p 48 ++ s) x true
theorem rep_at {p i c : Nat} {s : Tx} (h : p + 1 ≤ i) : (List.replicate p 48 ++ c :: s)[i]? = (List.replicate (p + 1) 48 ++ s)[i]? := by
  rw [List.getElem?_append_right (by rw [List.length_replicate]; omega), List.getElem?_append_right (by rw [List.length_replicate]; omega), List.length_replicate, List.length_replicate]
  rw [show i - p = (i - (p + 1)) + 1 by omega, List.getElem?_cons_succ]
theorem rep_here {p c : Nat} {s : Tx} : (List.replicate p 48 ++ c :: s)[p]? = some c := by
  rw [List.getElem?_append_right (by rw [List.length_replicate]; exact Nat.le_refl _), List.length_replicate, Nat.sub_self]
  rfl
theorem Fz.skip {ns : List Nd} {w : Nat} {tp : List Nat} {p d x c : Nat} {s : Tx} (D : Dep ns w tp (p + 1) d x) : Fz ns x p (c :: s) ↔ Fz ns x (p + 1) s :=
  ⟨fun h => Ev.agree D (fun i hi => rep_at hi) h, fun h => Ev.agree D (fun i hi => (rep_at hi).symm) h⟩
/-- the two numbers' letters blended, behind p places -/
def hB (op : Prop → Prop → Prop) (one other : List Nd) (x y p : Nat) (s : Tx) : Prop := op (Fz one x p s) (Fz other y p s)
section
variable {op : Prop → Prop → Prop} {one other : List Nd} {w : Nat} {tp : List Nat}
theorem canon_down {x y d d' : Nat} : ∀ (m p q : Nat) (ns : List Nd), p + m = q → q ≤ w → Dep one w tp q d x → Dep other w tp q d' y → canon (w - p) p (hB op one other x y p) ns = canon (w - q) q (hB op one other x y q) ns
  | 0, p, q, ns, h, _, _, _ => by rw [show p = q by omega]
  | m + 1, p, q, ns, h, hq, D1, D2 => by
    have ih := canon_down m (p + 1) q ns (by omega) hq D1 D2
    rw [← ih, show w - p = (w - (p + 1)) + 1 by omega]
    have D1' := D1.up (show p + 1 ≤ q by omega) (Nat.le_refl _)
    have D2' := D2.up (show p + 1 ≤ q by omega) (Nat.le_refl _)
    have sk : ∀ (c : Nat) (s : Tx), hB op one other x y p (c :: s) ↔ hB op one other x y (p + 1) s := fun c s => by
      unfold hB
      rw [propext (Fz.skip (c := c) (s := s) D1'), propext (Fz.skip (c := c) (s := s) D2')]
    rw [canon_skip fun l _ _ => (sk 48 l).trans (sk 49 l).symm]
    exact canon_ext fun l _ _ => sk 48 l
end
/-! what is known of pairs -/
def PrsOk (op : Prop → Prop → Prop) (one other : List Nd) (w : Nat) (ns : List Nd) (P : List (List Key × V)) : Prop :=
  ∀ (x y : Nat) (v : V), valV P [.inl (x : Int), .inl (y : Int)] = some v → ∃ (r p d d' : Nat) (tp : List Nat), v = .int (r : Int) ∧ p ≤ w ∧ Dep one w tp p d x ∧ Dep other w tp p d' y ∧ canon (w - p) p (hB op one other x y p) ns = (r, ns)
theorem canon_more {n p r : Nat} {f : Tx → Prop} {ns more : List Nd} (h : canon n p f ns = (r, ns)) : canon n p f (ns ++ more) = (r, ns ++ more) := by
  have := canon_again n p f ns more
  rw [h] at this
  exact this
theorem PrsOk.more {op : Prop → Prop → Prop} {one other : List Nd} {w : Nat} {ns more : List Nd} {P : List (List Key × V)} (h : PrsOk op one other w ns P) : PrsOk op one other w (ns ++ more) P := fun x y v e => by
  obtain ⟨r, p, d, d', tp, e1, hp, D1, D2, e2⟩ := h x y v e
  exact ⟨r, p, d, d', tp, e1, hp, D1, D2, canon_more e2⟩
theorem PrsOk.at {op : Prop → Prop → Prop} {one other : List Nd} {w : Nat} {ns : List Nd} {P : List (List Key × V)} (h : PrsOk op one other w ns P) {x y p d d' : Nat} {tp : List Nat} {v : V} (e : valV P [.inl (x : Int), .inl (y : Int)] = some v) (hp : p ≤ w) (D1 : Dep one w tp p d x) (D2 : Dep other w tp p d' y) :
    ∃ r : Nat, v = .int (r : Int) ∧ canon (w - p) p (hB op one other x y p) ns = (r, ns) := by
  obtain ⟨r, p', d1, d1', tp', e1, hp', D1', D2', e2⟩ := h x y v e
  refine ⟨r, e1, ?_⟩
  rcases Nat.le_total p p' with c | c
  · rw [canon_down (p' - p) p p' ns (by omega) hp' D1' D2', e2]
  · rw [← canon_down (p - p') p' p ns (by omega) hp D1 D2, e2]
theorem PrsOk.put {op : Prop → Prop → Prop} {one other : List Nd} {w : Nat} {ns : List Nd} {P : List (List Key × V)} (h : PrsOk op one other w ns P) {x y r p d d' : Nat} {tp : List Nat} (hp : p ≤ w) (D1 : Dep one w tp p d x) (D2 : Dep other w tp p d' y) (e : canon (w - p) p (hB op one other x y p) ns = (r, ns)) :
    PrsOk op one other w ns (putK P [.inl (x : Int), .inl (y : Int)] (.int (r : Int))) := fun x' y' v e' => by
  rw [valV_put] at e'
  split at e'
  · rename_i ek
    cases e'
    simp only [List.cons.injEq, Sum.inl.injEq, and_true] at ek
    obtain ⟨e1, e2⟩ := ek
    rw [Int.ofNat_inj.mp e1, Int.ofNat_inj.mp e2]
    exact ⟨r, p, d, d', tp, rfl, hp, D1, D2, e⟩
  · exact h x' y' v e'
end En

set_option Elab.async false
set_option linter.all false
set_option maxRecDepth 100000
set_option maxHeartbeats 4000000
namespace En
open PySem L2

/-! ### blends: ends, places, sides -/
def wdB : Nat → Tx
  | 0 => [106, 111, 105, 110]
  | 1 => [99, 111, 109, 109, 111, 110]
  | 2 => [108, 101, 115, 115]
  | _ => [101, 105, 116, 104, 101, 114]
def opW (o : Nat) (a b : Prop) : Prop := match o with
  | 0 => a ∨ b
  | 1 => a ∧ b
  | 2 => a ∧ ¬ b
  | _ => ¬ (a ↔ b)
@[simp] theorem lit_join : PyData.str (Str.ofString "join") = tx [106, 111, 105, 110] := (rfl)
@[simp] theorem lit_common : PyData.str (Str.ofString "common") = tx [99, 111, 109, 109, 111, 110] := (rfl)
@[simp] theorem lit_less : PyData.str (Str.ofString "less") = tx [108, 101, 115, 115] := (rfl)
@[simp] theorem lit_either : PyData.str (Str.ofString "either") = tx [101, 105, 116, 104, 101, 114] := (rfl)
namespace M
def bothD (one other : List Nd) (x y : Nat) : D := .tuple [.list (one.map ndD), .list (other.map ndD), .int (x : Int), .int (y : Int)]
end M
end En

set_option Elab.async false
set_option linter.all false
set_option maxRecDepth 100000
set_option maxHeartbeats 8000000
namespace En
open PySem PySem.Spec PyProof.Rows L2

/-! ### number_blended, step by step: nodes, numbers and pairs are its caller's -/
def mABC (a b c : Addr) : AS := fun z => z = a ∨ z = b ∨ z = c
def Out3 (a b c : Addr) (H H' : Hp) : Prop := ∀ z u, z ≠ a → z ≠ b → z ≠ c → H z = some u → H' z = some u
theorem Out3.of {a b c : Addr} {H H' : Hp} (s : Same H H') : Out3 a b c H H' := fun z u _ _ _ e => s z u e
theorem Out3.trans {a b c : Addr} {H H1 H2 : Hp} (x : Out3 a b c H H1) (y : Out3 a b c H1 H2) : Out3 a b c H H2 := fun z u h1 h2 h3 e => y z u h1 h2 h3 (x z u h1 h2 h3 e)
theorem Out3.k {a b c : Addr} {H H' : Hp} (o : Out3 a b c H H') : ∀ z u, ¬ mABC a b c z → H z = some u → H' z = some u := fun z u h e => o z u (fun e => h (.inl e)) (fun e => h (.inr (.inl e))) (fun e => h (.inr (.inr e))) e
theorem dt_tx {H : Hp} {L : AS} {v : V} {l : Tx} (h : Dt H L v (tx l)) : v = .str ⟨l.toArray⟩ := by
  unfold tx at h
  cases h
  rfl
structure BlPre (H : Hp) (t a b c : Addr) (ns : List Nd) (P : List (List Key × V)) (v2 v3 : V) (one other : List Nd) (o x y p w d d' : Nat) (tp : List Nat) : Prop where
  made : Made H t a b ns
  prs : H c = some (.dT P)
  cb : c ≠ b
  both : Dt H (fun z => ¬ mABC a b c z) v2 (M.bothD one other x y)
  word : v3 = .str ⟨(wdB o).toArray⟩
  D1 : Dep one w tp p d x
  D2 : Dep other w tp p d' y
  w9 : w ≤ 99
  pw : p ≤ w
  ok : PrsOk (opW o) one other w ns P
  room : ns.length + 2 ^ tp.length ≤ 2 ^ 19
  room2 : P.length + 2 ^ tp.length ≤ 2 ^ 19
theorem BlPre.ca {H : Hp} {t a b c : Addr} {ns : List Nd} {P : List (List Key × V)} {v2 v3 : V} {one other : List Nd} {o x y p w d d' : Nat} {tp : List Nat} (B : BlPre H t a b c ns P v2 v3 one other o x y p w d d' tp) : c ≠ a := fun z => by
  obtain ⟨cs, m2, _⟩ := B.made.lst
  rw [← z, B.prs] at m2
  cases m2
section
variable {Γ : FT} {k : Nat}
end
end En

set_option Elab.async false
set_option linter.all false
set_option maxRecDepth 100000
set_option maxHeartbeats 8000000
namespace En
open PySem PySem.Spec PyProof.Rows L2

/-! ### graph_blend: what is told -/
theorem nds_inj : ∀ {a b : List Nd}, a.map ndD = b.map ndD → a = b
  | [], [], _ => rfl
  | [], _ :: _, h => by simp at h
  | _ :: _, [], h => by simp at h
  | (a1, a2, a3) :: as, (b1, b2, b3) :: bs, h => by
    simp only [List.map_cons, List.cons.injEq, ndD, PyData.tuple.injEq, PyData.int.injEq, and_true] at h
    obtain ⟨⟨h1, h2, h3⟩, h4⟩ := h
    rw [Int.ofNat_inj.mp h1, Int.ofNat_inj.mp h2, Int.ofNat_inj.mp h3, nds_inj h4]
theorem grD_inj {g h : Nat × List Nd} (e : grD g = grD h) : g = h := by
  obtain ⟨a, A⟩ := g
  obtain ⟨b, B⟩ := h
  simp only [grD, PyData.tuple.injEq, List.cons.injEq, PyData.int.injEq, PyData.list.injEq, and_true] at e
  rw [Int.ofNat_inj.mp e.1, nds_inj e.2]
open Classical in
theorem nds_dts {H H7 : Hp} {L : AS} (s : Same H H7) : ∀ (cs : List Addr) (ns : List Nd), NdsAt H cs ns → Dts H7 L (cs.map V.ref) (ns.map ndD)
  | [], [], _ => .nil
  | [], _ :: _, h => absurd h.1 (by simp)
  | _ :: _, [], h => absurd h.1 (by simp)
  | c :: cs, z :: ns, h => by
    have h0 := h.2 0 c z rfl rfl
    exact .cons (.tup (.inl (s _ _ h0)) (.cons (.int _) (.cons (.int _) (.cons (.int _) .nil)))) (nds_dts s cs ns ⟨by simpa using h.1, fun i c' z' e1 e2 => h.2 (i + 1) c' z' (by simpa using e1) (by simpa using e2)⟩)
/-- a graph told anew: its list is new and its own -/
def Gr (H H' : Hp) (u : V) (g : Nat × List Nd) : Prop := ∃ (z a : Addr) (xs : List V), u = .ref z ∧ H' z = some (.tup [.int (g.1 : Int), .ref a]) ∧ H' a = some (.lst xs) ∧ Dts H' (fun _ => False) xs (g.2.map ndD) ∧ H a = none
theorem Gr.rv {H H' : Hp} {M : AS} {u : V} {g : Nat × List Nd} (h : Gr H H' u g) (hM : ∀ a, M a → ∃ o, H a = some o ∧ Mut (some o)) : RvOk H M H H' u (.fr false (grD g)) := by
  obtain ⟨z, a, xs, rfl, lz, la, hxs, ha⟩ := h
  have mna : ¬ M a := fun z => by
    obtain ⟨u, e, _⟩ := hM a z
    rw [ha] at e
    cases e
  show Dt H' (Lm H M false) (.ref z) (.tuple [.int (g.1 : Int), .list (g.2.map ndD)])
  exact .tup (.inl lz) (.cons (.int _) (.cons (.lst ⟨mna, fun _ => ha⟩ (.inl la) (hxs.wk fun _ z => z.elim)) .nil))
section
variable {Γ : FT} {k : Nat}
end
section
variable {P : Program} {w : World} {K : PySem.W.Frag} {mg : Str → Option Value} {base : Heap}
/-- the strong promise of a def that tells a graph anew -/
def spGr (n : Nat) (g : List D → R Rv) : L2.Sp := fun vs H Q _ => vs.length = n ∧ ∃ (M : AS) (ds : List D) (r : Nat × List Nd), (∀ a, M a → ∃ o, H a = some o ∧ Mut (some o)) ∧ Dts H (fun a => ¬ M a) vs ds ∧ g ds = .ok (.fr false (grD r)) ∧ ∀ u H', Same H H' → Gr H H' u r → Q u H'
theorem gr_weak {fa : Addr} {fd : FuncData} {ps : List Str} {k n : Nat} {g : List D → R Rv} (hps : n = ps.length) (hg : ∀ ds, g ds = .bad ∨ ∃ r, g ds = .ok (.fr false (grD r))) (F : FnOk P w K mg base (L2.CX P w) k fa fd ps (spGr n g)) : FnOk P w K mg base (L2.CX P w) k fa fd ps (spG mg n g) := by
  refine F.imp fun vs H Q E h => ?_
  obtain ⟨hl, M, ds, hM, hD, h⟩ := h
  rcases hg ds with e | ⟨r, e⟩
  · rw [e] at h
    exact False.elim h
  · rw [e] at h
    exact ⟨hl, M, ds, r, hM, hD, e, fun u H' s gr => h u H' s (gr.rv hM)⟩
/-- a table whose def tells a graph anew -/
def GrAt (P : Program) (w : World) (K : PySem.W.Frag) (mg : Str → Option Value) (base : Heap) (k : Nat) (x : Str) (n : Nat) (g : List D → R Rv) : Prop := ∃ fa fd ps, FnOk P w K mg base (L2.CX P w) k fa fd ps (spGr n g) ∧ mg x = some (.ref fa) ∧ PySem.W.keepIn K (.ref fa) = true ∧ Binds K fd ps []
end
end En

set_option Elab.async false
set_option linter.all false
set_option maxRecDepth 100000
set_option maxHeartbeats 4000000
namespace En
open PySem L2

/-! ### letters beyond the places that a graph asks for -/
theorem cl_eq {m : Nat} {s c : Tx} (hs : Ltr m s) (hc : Ltr m c) : ¬ Cl s c ↔ s = c :=
  ⟨fun h => Classical.byContradiction fun n => h (ltr_ne hc hs fun e => n e.symm), fun h => h ▸ not_cl s⟩
/-- the graph of choices at places -/
def heapT (w : Nat) (ps : List Nat) (D : List Tx) : List Tx := D.map fun s => spreadL s ps (List.replicate w 45)
theorem heapT_in {w : Nat} {ps : List Nat} {D : List Tx} (pn : ps.Nodup) (pw : ∀ p ∈ ps, p < w) (hD : ∀ c ∈ D, Ltr ps.length c) {l : Tx} (hl : Ltr w l) : setR (heapT w ps D) 0 l ↔ atS ps l ∈ D := by
  have := heap_in (ss := D) (l := l) pn pw (fun s h => (hD s h).row) hl
  have e0 : setR (heapT w ps D) 0 l ↔ ∃ r ∈ heapT w ps D, Hold r l := by unfold setR; simp
  rw [e0]
  refine this.trans ⟨fun ⟨s, hs, hc⟩ => ?_, fun h => ⟨_, h, not_cl _⟩⟩
  rw [← (cl_eq (hD s hs) (atS_ltr pw hl)).mp hc]
  exact hs
theorem heapT_row {w : Nat} {ps : List Nat} {D : List Tx} (pn : ps.Nodup) (pw : ∀ p ∈ ps, p < w) (hD : ∀ c ∈ D, Ltr ps.length c) : ∀ r ∈ heapT w ps D, Row w r := sp_row pn pw fun s h => (hD s h).row
theorem heapT_tell {w : Nat} {ps : List Nat} {D : List Tx} : ∀ r ∈ heapT w ps D, ∀ i x : Nat, r[i]? = some x → x ≠ 45 → i ∈ ps := fun r hr i x e n => by
  obtain ⟨s, _, rfl⟩ := List.mem_map.mp hr
  exact spread_tell i x e n
/-- what a told graph is: it stands for the choices of D -/
structure GrOf (w : Nat) (ps : List Nat) (D : List Tx) (g : Nat × List Nd) : Prop where
  fit : Fit g w ps
  ev : ∀ l, Ltr w l → Ev g.2 l g.1 (decide (atS ps l ∈ D))
  eq : g = canon w 0 (fun l => atS ps l ∈ D) []
theorem grOf_canon {w : Nat} {ps : List Nat} {D rows : List Tx} (hw : w ≤ 900) (hp : ps.length ≤ 8) (ro : ∀ r ∈ rows, Row w r) (te : ∀ r ∈ rows, ∀ i x : Nat, r[i]? = some x → x ≠ 45 → i ∈ ps) (h : ∀ l, Ltr w l → (setR rows 0 l ↔ atS ps l ∈ D)) : GrOf w ps D (canon w 0 (setR rows 0) []) := by
  refine ⟨canon_fit hw hp ro te, fun l hl => ?_, canon_ext fun l h1 h2 => h l ⟨h1, h2⟩⟩
  classical
  have this := canon_ev w 0 (setR rows 0) [] [] l (by rw [hl.1, Nat.zero_add]) hl.2
  rw [List.append_nil, List.drop_zero, decide_eq_decide.mpr (h l hl)] at this
  exact this
theorem grOf_same {w : Nat} {ps : List Nat} {D D' : List Tx} {g g' : Nat × List Nd} (pw : ∀ p ∈ ps, p < w) (a : GrOf w ps D g) (b : GrOf w ps D' g') (h : ∀ c, Ltr ps.length c → (c ∈ D ↔ c ∈ D')) : g = g' := by
  rw [a.eq, b.eq]
  exact canon_ext fun l h1 h2 => h _ (atS_ltr pw ⟨h1, h2⟩)
theorem grOf_heap {w : Nat} {ps : List Nat} {D : List Tx} (hw : w ≤ 900) (pn : ps.Nodup) (pw : ∀ p ∈ ps, p < w) (hp : ps.length ≤ 8) (hD : ∀ c ∈ D, Ltr ps.length c) : GrOf w ps D (canon w 0 (setR (heapT w ps D) 0) []) :=
  grOf_canon hw hp (heapT_row pn pw hD) heapT_tell fun l hl => heapT_in pn pw hD hl
/-! blends -/
namespace M
def lies : MF := ⟨3, (.cons (.ife (.cmp .Eq (.v 0) (.ks "join")) (.cons (.ret (.bop false (.cons (.v 1) (.cons (.v 2) .nil)))) .nil) .nil) (.cons (.ife (.cmp .Eq (.v 0) (.ks "common")) (.cons (.ret (.bop true (.cons (.v 1) (.cons (.v 2) .nil)))) .nil) .nil) (.cons (.ife (.cmp .Eq (.v 0) (.ks "less")) (.cons (.ret (.bop true (.cons (.v 1) (.cons (.not_ (.v 2)) .nil)))) .nil) .nil) (.cons (.ret (.cmp .NotEq (.v 1) (.v 2))) .nil))))⟩
def wholes : MF := ⟨3, (.cons (.for_ (.n 1) (.e (.bin .Add (.lst (.cons (.tup (.cons (.ix (.v 0) (.ki 0)) .nil)) .nil)) (.ix (.v 0) (.ki 1)))) (.cons (.ife (.cmp .NotEq (.lc (.n 2) (.e (.v 1)) (.so (.bop false (.cons (.not_ (.isi (.v 2) "int")) (.cons (.isi (.v 2) "bool") .nil)))) (.v 2)) (.lst .nil)) (.cons (.ret (.kb false)) .nil) .nil) .nil)) (.cons (.ret (.kb true)) .nil))⟩
theorem wholes_ok {Γ : FT} {n : Nat} {X : Str → Prop} {K : Rv → Prop} (g : Nat × List Nd) (hf : g.2.length ≤ 2 ^ 10) (q : K (.fr false (.bool true))) : RS X (runF Γ n wholes [grD g]) K := by
  have al := add_list (a := [PyData.tuple [.int (g.1 : Int)]]) (b := g.2.map ndD) (sz _ (by simp; omega))
  have hd : ∀ d ∈ [PyData.tuple [.int (g.1 : Int)]] ++ g.2.map ndD, ∃ zs : List Int, d = .tuple (zs.map .int) ∧ zs.length ≤ 3 := fun d hd => by
    rcases List.mem_append.mp hd with h | h
    · exact ⟨[(g.1 : Int)], List.mem_singleton.mp h, by simp⟩
    · obtain ⟨z, _, rfl⟩ := List.mem_map.mp h
      exact ⟨[(z.1 : Int), (z.2.1 : Int), (z.2.2 : Int)], rfl, by simp⟩
  generalize [PyData.tuple [.int (g.1 : Int)]] ++ g.2.map ndD = L at *
  refine rs_run ?_
  simp [wholes, startE, semIx0, semIx1, sz 1 (by decide), al]
  obtain ⟨I, hI⟩ : ∃ I : Nat → List Sl → Prop, ∀ i e, I i e = ∃ (s1 s2 : Sl), e = [.fr true (grD g), s1, s2] := ⟨_, fun _ _ => rfl⟩
  refine fs_for I ?_ (fun i d e hd' h => ?_) (fun e h => ?_)
  · rw [hI]
    exact ⟨_, _, rfl⟩
  · rw [hI] at h
    obtain ⟨s1, s2, rfl⟩ := h
    obtain ⟨zs, rfl, hz⟩ := hd d (List.mem_of_getElem? hd')
    have ee : eqO (.list []) (.list []) = some true := rfl
    simp
    refine rs_lc (fun i m L => m = false ∧ L = []) ⟨rfl, rfl⟩ (fun i d m L hd2 h => ?_) (fun m L h => ?_)
    · obtain ⟨rfl, rfl⟩ := h
      obtain ⟨z, rfl⟩ : ∃ z : Int, d = .int z := by
        have := List.mem_of_getElem? hd2
        simp at this
        obtain ⟨z, _, rfl⟩ := this
        exact ⟨_, rfl⟩
      simp [lcT]
    obtain ⟨rfl, rfl⟩ := h
    simp [ee]
    refine ⟨sz _ (by omega), ?_⟩
    rw [hI]
    exact ⟨_, _, rfl⟩
  · exact q
def WholesAt (Γ : FT) : Prop := ∃ Γ' n, Γ "_law_wholes" = some (1, fun ds => runF Γ' n wholes ds)
def LawEndAt (Γ : FT) : Prop := ∃ Γ' n, Γ "_law_end" = some (2, fun ds => runF Γ' n lawEnd ds)
def GraphAt (Γ : FT) : Prop := Γ "graph_of" = some (1, graphG)
end M
end En

set_option Elab.async false
set_option linter.all false
set_option maxRecDepth 100000
set_option maxHeartbeats 8000000
namespace En
open PySem PySem.Spec PyProof.Rows L2

/-! ### the state told anew: what stands is of old -/
def rbS : Sl → Sl
  | .fr _ d => .fr true d
  | .pt v => .pt v
  | .kn v _ d => .kn v true d
  | _ => .no
theorem EnvOk.rebase {H0 : Hp} {M0 : AS} {H : Hp} {M : AS} {σ : L2.St} {env : List Sl} (ok : EnvOk H0 M0 H M σ env) : EnvOk H M H M σ (env.map rbS) := by
  have wk : ∀ {m : Bool} (a : Addr), Lm H0 M m a → Lm H M true a := fun a l => ⟨l.1, fun z => by cases z⟩
  refine ⟨by rw [List.length_map]; exact ok.len, Same.refl _, fun a z => ⟨z, fun z2 => ?_⟩, ok.dom, fun i s e => ?_, fun i j m d m' d' a e => ?_⟩
  · obtain ⟨u, e, _⟩ := ok.dom a z
    rw [e] at z2
    cases z2
  · rw [List.getElem?_map] at e
    cases h : env[i]? with
    | none => rw [h] at e; cases e
    | some s0 =>
      rw [h] at e
      have h2 := ok.sl i s0 h
      cases s0 with
      | no => cases e; trivial
      | fr m d =>
        cases e
        obtain ⟨v, q, t⟩ := h2
        exact ⟨v, q, t.wk wk⟩
      | ow m d => cases e; trivial
      | pt v => cases e; exact h2
      | kn v m d => cases e; exact ⟨h2.1, h2.2.wk wk⟩
  · rw [List.getElem?_map] at e
    cases h : env[i]? with
    | none => rw [h] at e; cases e
    | some s0 =>
      rw [h] at e
      cases s0 <;> cases e
theorem EnvOk.set_kn {H0 : Hp} {M0 : AS} {H : Hp} {M : AS} {σ : L2.St} {env : List Sl} (ok : EnvOk H0 M0 H M σ env) {i : Nat} {v : V} {m : Bool} {d : D} (t : Dt H (Lm H0 M m) v d) (hi : i < env.length) : EnvOk H0 M0 H M (σ.set i (some v)) (env.set i (.kn v m d)) := by
  refine ok.ch (by rw [List.length_set, List.length_set]; exact ok.len) fun j s e => ?_
  by_cases hj : i = j
  · subst hj
    rw [List.getElem?_set_self hi] at e
    cases e
    exact .inr ⟨fun _ _ q => (nomatch q), by rw [List.getElem?_set_self (by rw [ok.len]; exact hi)], t⟩
  · rw [List.getElem?_set_ne hj] at e
    exact .inl ⟨e, List.getElem?_set_ne hj⟩
/-- a graph told anew, later: its list is plain -/
theorem Gr.dt {H H' : Hp} {L : AS} {u : V} {g : Nat × List Nd} (h : Gr H H' u g) (hL : ∀ a, H a = none → L a) : Dt H' L u (grD g) := by
  obtain ⟨z, a, xs, rfl, lz, la, hxs, ha⟩ := h
  exact .tup (.inl lz) (.cons (.int _) (.cons (.lst (hL a ha) (.inl la) (hxs.wk fun _ z => z.elim)) .nil))
def appE : ME := .tup (.cons (.ki 0) (.cons (.ki 0) (.cons (.ki 1) .nil)))
theorem appE_ev {Γ : FT} {env : List Sl} : evE Γ env appE = .ok (.fr false (.tuple [.int 0, .int 0, .int 1])) := by
  simp [appE]
  exact sz 3 (by decide)
/-- graph[1].append((0, 0, 1)) -/
def okAp (i : Nat) (N : List Str) (sc : Scope) : Stmt → Bool
  | .Expr (.Call (.Attribute (.Subscript (.Name f _) ix _) ap apos) [.Tuple es xx tp] [] cpos) _ => slotOk N sc i f && okE N sc (.ki 1) ix && decide (ap = "append") && (apos.endLine == cpos.line) && okE N sc appE (.Tuple es xx tp)
  | _ => false
section
variable {Γ : FT} {k : Nat}
theorem ap_ok {X : Cx} {E : XK} (ox : OkS X Γ E k (exL [])) (i : Nat) (s : Stmt) (hc : okAp i X.N X.env.scope s = true) :
    PS X s (fun Dn σ H => ∃ (z a : Addr) (n : Int) (xs : List V), σ[i]? = some (some (.ref z)) ∧ H z = some (.tup [.int n, .ref a]) ∧ H a = some (.lst xs) ∧ xs.length < sizeLine ∧ ∀ H' v, (∀ c u, c ≠ a → H c = some u → H' c = some u) → H' a = some (.lst (xs ++ [v])) → Dn.nx σ H') := by
  unfold okAp at hc
  split at hc
  · rename_i f q1 ix q2 ap apos es xx tp cpos q3
    simp only [Bool.and_eq_true, decide_eq_true_eq] at hc
    obtain ⟨⟨⟨⟨h1, h2⟩, rfl⟩, h3⟩, h4⟩ := hc
    refine (ps_expr (pos := q3) (pe_bm PySem.F.plainAttrs_list PySem.F.slot_list_append PySem.F.type_list_append mt_append (pe_ix L2.ix_tup (pe_v (pos := q1) h1) (sE _ ix ox.ok h2).1 (plain_ix h2)) (pa_cons (sE _ (.Tuple es xx tp) ox.ok h4).1 pa_nil) rfl rfl h3 rfl rfl) rfl).imp fun Dn σ H ⟨z, a, n, xs, hz, lz, la, hl, q⟩ => ?_
    refine ⟨.ref z, hz, H, fun _ => False, fun _ => False, _, env_no H σ, ?_⟩
    have e0 : ∀ env : List Sl, evE Γ env (.ki 1) = .ok (.fr false (.int 1)) := fun env => by simp
    rw [e0]
    intro v1 H1 s1 rv1
    have rv1 : Dt H1 _ v1 (.int 1) := rv1
    cases rv1
    have la1 := s1 _ _ la
    refine ⟨z, [.int n, .ref a], 1, .ref a, rfl, rfl, .inl (.inl (s1 _ _ lz)), rfl, .inl ⟨rfl, _, .inl (.inl la1)⟩, H1, fun _ => False, fun _ => False, _, env_no H1 σ, ?_⟩
    rw [appE_ev]
    intro v2 H2 s2 rv2
    have la2 := s2 _ _ la1
    refine ⟨a, xs, v2, rfl, rfl, la2, hl, q _ v2 (fun c u hc e => ?_) upd_same⟩
    rw [upd_ne hc]
    exact s2 _ _ (s1 _ _ e)
  · cases hc
end
open Classical in
section
variable {P : Program} {w : World} {K : PySem.W.Frag} {mg : Str → Option Value} {base : Heap}
end
end En

set_option Elab.async false
set_option linter.all false
set_option maxRecDepth 100000
set_option maxHeartbeats 4000000
namespace En
open PySem L2

/-! ### a graph under an over: what is told -/
def hU (one : List Nd) (over : Tx) (x p : Nat) (s : Tx) : Prop := Ev one (wr (List.replicate p 48 ++ s) over) x true
theorem wr_at {l o : Tx} {i : Nat} : (wr l o)[i]? = match l[i]?, o[i]? with
    | some a, some b => some (if b = 45 then a else b)
    | _, _ => none := by
  unfold wr
  rw [List.getElem?_zipWith]
  cases l[i]? <;> cases o[i]? <;> rfl
theorem wr_rep {p i c : Nat} {s o : Tx} (h : p + 1 ≤ i) : (wr (List.replicate p 48 ++ c :: s) o)[i]? = (wr (List.replicate (p + 1) 48 ++ s) o)[i]? := by
  rw [wr_at, wr_at, rep_at h]
theorem wr_here {p c z : Nat} {s o : Tx} (h : o[p]? = some z) : (wr (List.replicate p 48 ++ c :: s) o)[p]? = some (if z = 45 then c else z) := by
  rw [wr_at, rep_here, h]
section
variable {one : List Nd} {over : Tx} {w : Nat} {tp : List Nat}
theorem hU.skip {p d x c : Nat} {s : Tx} (D : Dep one w tp (p + 1) d x) : hU one over x p (c :: s) ↔ hU one over x (p + 1) s :=
  ⟨fun h => Ev.agree D (fun i hi => wr_rep hi) h, fun h => Ev.agree D (fun i hi => (wr_rep hi).symm) h⟩
theorem hU.node {q d d' k a b c z : Nat} {s : Tx} (e : one[k]? = some (q, a, b)) (da : Dep one w tp (q + 1) d a) (db : Dep one w tp (q + 1) d' b) (h : over[q]? = some z) : hU one over (k + 2) q (c :: s) ↔ hU one over (if (if z = 45 then c else z) = 49 then b else a) (q + 1) s := by
  have hh := wr_here (c := c) (s := s) h
  generalize (if z = 45 then c else z) = y at *
  constructor
  · intro hu
    cases hu with
    | @node _ p' a' b' _ e' f1 f0 =>
      rw [e] at e'
      cases e'
      by_cases hy : y = 49
      · rw [if_pos hy]
        exact Ev.agree db (fun i hi => wr_rep hi) (f1 (by rw [hh, hy]))
      · rw [if_neg hy]
        exact Ev.agree da (fun i hi => wr_rep hi) (f0 (by rw [hh]; simpa using hy))
  · intro hu
    by_cases hy : y = 49
    · rw [if_pos hy] at hu
      exact Ev.node e (fun _ => Ev.agree db (fun i hi => (wr_rep hi).symm) hu) fun z => absurd (by rw [hh, hy]) z
    · rw [if_neg hy] at hu
      exact Ev.node e (fun z => absurd (by rw [hh] at z; simpa using z) hy) fun _ => Ev.agree da (fun i hi => (wr_rep hi).symm) hu
theorem under_down {x d : Nat} : ∀ (m p q : Nat) (ns : List Nd), p + m = q → q ≤ w → Dep one w tp q d x → canon (w - p) p (hU one over x p) ns = canon (w - q) q (hU one over x q) ns
  | 0, p, q, ns, h, _, _ => by rw [show p = q by omega]
  | m + 1, p, q, ns, h, hq, D1 => by
    have ih := under_down m (p + 1) q ns (by omega) hq D1
    rw [← ih, show w - p = (w - (p + 1)) + 1 by omega]
    have D1' := D1.up (show p + 1 ≤ q by omega) (Nat.le_refl _)
    rw [canon_skip fun l _ _ => (hU.skip (over := over) (c := 48) (s := l) D1').trans (hU.skip (c := 49) D1').symm]
    exact canon_ext fun l _ _ => hU.skip D1'
theorem under_end {x p : Nat} {ns : List Nd} (hx : x < 2) : canon (w - p) p (hU one over x p) ns = (x, ns) := by
  match x, hx with
  | 0, _ => exact canon_no fun l _ _ h => by cases h
  | 1, _ => exact canon_yes fun l _ _ => .yes
/-- at a place that the over tells -/
theorem under_told {q d d' k a b z : Nat} {ns : List Nd} (hq : q < w) (e : one[k]? = some (q, a, b)) (da : Dep one w tp (q + 1) d a) (db : Dep one w tp (q + 1) d' b) (h : over[q]? = some z) (hz : z ≠ 45) : canon (w - q) q (hU one over (k + 2) q) ns = canon (w - (q + 1)) (q + 1) (hU one over (if z = 49 then b else a) (q + 1)) ns := by
  have n := fun c s => hU.node (over := over) (c := c) (s := s) e da db h
  have n : ∀ c s, hU one over (k + 2) q (c :: s) ↔ hU one over (if z = 49 then b else a) (q + 1) s := fun c s => by
    have := n c s
    rwa [if_neg hz] at this
  rw [show w - q = (w - (q + 1)) + 1 by omega, canon_skip fun l _ _ => (n 48 l).trans (n 49 l).symm]
  exact canon_ext fun l _ _ => n 48 l
theorem under_at {q d d' k a b : Nat} {ns : List Nd} (hq : q < w) (e : one[k]? = some (q, a, b)) (da : Dep one w tp (q + 1) d a) (db : Dep one w tp (q + 1) d' b) (h : over[q]? = some 45) :
    canon (w - q) q (hU one over (k + 2) q) ns = nodeN (canon (w - (q + 1)) (q + 1) (hU one over b (q + 1)) (canon (w - (q + 1)) (q + 1) (hU one over a (q + 1)) ns).2).2 q (canon (w - (q + 1)) (q + 1) (hU one over a (q + 1)) ns).1 (canon (w - (q + 1)) (q + 1) (hU one over b (q + 1)) (canon (w - (q + 1)) (q + 1) (hU one over a (q + 1)) ns).2).1 := by
  have e0 : ∀ ns, canon (w - (q + 1)) (q + 1) (fun l => hU one over (k + 2) q (48 :: l)) ns = canon (w - (q + 1)) (q + 1) (hU one over a (q + 1)) ns := fun ns => canon_ext fun l _ _ => by
    have := hU.node (over := over) (c := 48) (s := l) e da db h
    simpa using this
  have e1 : ∀ ns, canon (w - (q + 1)) (q + 1) (fun l => hU one over (k + 2) q (49 :: l)) ns = canon (w - (q + 1)) (q + 1) (hU one over b (q + 1)) ns := fun ns => canon_ext fun l _ _ => by
    have := hU.node (over := over) (c := 49) (s := l) e da db h
    simpa using this
  rw [show w - q = (w - (q + 1)) + 1 by omega]
  simp only [canon, e0, e1]
end
theorem node_len (ns : List Nd) (p a b : Nat) : (nodeN ns p a b).2.length ≤ ns.length + 1 := by
  unfold nodeN
  split
  · simp
  · split <;> simp
theorem under_grow {one : List Nd} {over : Tx} {w : Nat} (ho : Row w over) : ∀ (n : Nat) (tp : List Nat) (x p d : Nat) (ns : List Nd), tp.length ≤ n → p ≤ w → Dep one w tp p d x → (canon (w - p) p (hU one over x p) ns).2.length + 1 ≤ ns.length + 2 ^ tp.length := by
  intro n
  induction n with
  | zero =>
    intro tp x p d ns hn hp D
    have l0 : 0 < 2 ^ tp.length := Nat.pow_pos (by decide)
    cases D with
    | no => rw [under_end (by decide)]; dsimp only; omega
    | yes => rw [under_end (by decide)]; dsimp only; omega
    | node e h1 h2 h3 => have := List.length_pos_of_mem h3; omega
  | succ n ih =>
    intro tp x p d ns hn hp D
    have l0 : 0 < 2 ^ tp.length := Nat.pow_pos (by decide)
    cases D with
    | no => rw [under_end (by decide)]; dsimp only; omega
    | yes => rw [under_end (by decide)]; dsimp only; omega
    | @node _ dn k q a b e h1 h2 h3 h4 da db =>
      have D2 : Dep one w tp q (dn + 1) (k + 2) := .node e (Nat.le_refl _) h2 h3 h4 da db
      have al := above_lt h3
      have pw := pow_two al
      have l1 : 0 < 2 ^ (above tp q).length := Nat.pow_pos (by decide)
      have hq : q < over.length := by rw [ho.1]; exact h2
      rw [under_down (tp := tp) (q - p) p q ns (by omega) (by omega) D2]
      by_cases hz : over[q] = 45
      · rw [under_at h2 e da db (by rw [List.getElem?_eq_getElem hq, hz])]
        have g0 := ih (above tp q) a (q + 1) dn ns (by omega) (by omega) (da.above (by omega))
        have g1 := ih (above tp q) b (q + 1) dn (canon (w - (q + 1)) (q + 1) (hU one over a (q + 1)) ns).2 (by omega) (by omega) (db.above (by omega))
        have := node_len (canon (w - (q + 1)) (q + 1) (hU one over b (q + 1)) (canon (w - (q + 1)) (q + 1) (hU one over a (q + 1)) ns).2).2 q (canon (w - (q + 1)) (q + 1) (hU one over a (q + 1)) ns).1 (canon (w - (q + 1)) (q + 1) (hU one over b (q + 1)) (canon (w - (q + 1)) (q + 1) (hU one over a (q + 1)) ns).2).1
        omega
      · rw [under_told h2 e da db (List.getElem?_eq_getElem hq) hz]
        split
        · have g0 := ih (above tp q) b (q + 1) dn ns (by omega) (by omega) (db.above (by omega))
          omega
        · have g0 := ih (above tp q) a (q + 1) dn ns (by omega) (by omega) (da.above (by omega))
          omega
/-! what is known -/
def UnOk (one : List Nd) (over : Tx) (w : Nat) (ns : List Nd) (S : List (Key × V)) : Prop :=
  ∀ (x : Nat) (v : V), valV S (.inl (x : Int)) = some v → ∃ (r p d : Nat) (tp : List Nat), v = .int (r : Int) ∧ p ≤ w ∧ Dep one w tp p d x ∧ canon (w - p) p (hU one over x p) ns = (r, ns)
theorem UnOk.more {one : List Nd} {over : Tx} {w : Nat} {ns more : List Nd} {S : List (Key × V)} (h : UnOk one over w ns S) : UnOk one over w (ns ++ more) S := fun x v e => by
  obtain ⟨r, p, d, tp, e1, hp, D, e2⟩ := h x v e
  exact ⟨r, p, d, tp, e1, hp, D, canon_more e2⟩
theorem UnOk.at {one : List Nd} {over : Tx} {w : Nat} {ns : List Nd} {S : List (Key × V)} (h : UnOk one over w ns S) {x p d : Nat} {tp : List Nat} {v : V} (e : valV S (.inl (x : Int)) = some v) (hp : p ≤ w) (D : Dep one w tp p d x) : ∃ r : Nat, v = .int (r : Int) ∧ canon (w - p) p (hU one over x p) ns = (r, ns) := by
  obtain ⟨r, p', d1, tp', e1, hp', D', e2⟩ := h x v e
  refine ⟨r, e1, ?_⟩
  rcases Nat.le_total p p' with c | c
  · rw [under_down (p' - p) p p' ns (by omega) hp' D', e2]
  · rw [← under_down (p - p') p' p ns (by omega) hp D, e2]
theorem UnOk.put {one : List Nd} {over : Tx} {w : Nat} {ns : List Nd} {S : List (Key × V)} (h : UnOk one over w ns S) {x r p d : Nat} {tp : List Nat} (hp : p ≤ w) (D : Dep one w tp p d x) (e : canon (w - p) p (hU one over x p) ns = (r, ns)) : UnOk one over w ns (putK S (.inl (x : Int)) (.int (r : Int))) := fun x' v e' => by
  rw [valV_put] at e'
  split at e'
  · rename_i ek
    cases e'
    simp only [Sum.inl.injEq] at ek
    rw [Int.ofNat_inj.mp ek]
    exact ⟨r, p, d, tp, rfl, hp, D, e⟩
  · exact h x' v e'
/-! ### the other graph -/
def teN (x : Nat) : Nat := if x < 2 then 1 - x else x
def turnN (z : Nd) : Nd := (z.1, teN z.2.1, teN z.2.2)
theorem te_te (x : Nat) : teN (teN x) = x := by
  unfold teN
  split
  · split <;> omega
  · rfl
theorem te_inj {x y : Nat} : teN x = teN y ↔ x = y := ⟨fun h => by rw [← te_te x, h, te_te], fun h => by rw [h]⟩
theorem turn_turn (z : Nd) : turnN (turnN z) = z := by
  obtain ⟨a, b, c⟩ := z
  simp [turnN, te_te]
theorem node_turn (ns : List Nd) (p a b : Nat) : nodeN (ns.map turnN) p (teN a) (teN b) = (teN (nodeN ns p a b).1, (nodeN ns p a b).2.map turnN) := by
  unfold nodeN
  by_cases h : a = b
  · rw [if_pos h, if_pos (te_inj.mpr h)]
  · rw [if_neg h, if_neg fun z => h (te_inj.mp z)]
    have e : (ns.map turnN).findIdx? (fun z => decide (z = (p, teN a, teN b))) = ns.findIdx? fun z => decide (z = (p, a, b)) := by
      rw [List.findIdx?_map]
      congr 1
      funext z
      simp only [Function.comp]
      rw [decide_eq_decide]
      constructor
      · intro h
        have := congrArg turnN h
        rw [turn_turn] at this
        rw [this]
        simp [turnN, te_te]
      · rintro rfl
        rfl
    rw [e]
    cases ns.findIdx? fun z => decide (z = (p, a, b)) with
    | some i => rfl
    | none => simp [turnN, teN]
theorem canon_turn : ∀ (n p : Nat) (f : Tx → Prop) (ns : List Nd), canon n p (fun l => ¬ f l) (ns.map turnN) = (teN (canon n p f ns).1, (canon n p f ns).2.map turnN)
  | 0, p, f, ns => by
    by_cases h : f []
    · rw [canon_no (f := fun l => ¬ f l) fun l hl _ z => z (by rw [List.eq_nil_of_length_eq_zero hl]; exact h), canon_yes (f := f) fun l hl _ => by rw [List.eq_nil_of_length_eq_zero hl]; exact h]
      rfl
    · rw [canon_no (f := f) fun l hl _ z => h (by rw [List.eq_nil_of_length_eq_zero hl] at z; exact z), canon_yes (f := fun l => ¬ f l) fun l hl _ => by rw [List.eq_nil_of_length_eq_zero hl]; exact h]
      rfl
  | n + 1, p, f, ns => by
    have i0 := canon_turn n (p + 1) (fun l => f (48 :: l)) ns
    have i1 := canon_turn n (p + 1) (fun l => f (49 :: l)) (canon n (p + 1) (fun l => f (48 :: l)) ns).2
    simp only [canon]
    rw [i0]
    dsimp only
    rw [i1]
    dsimp only
    exact node_turn _ _ _ _
end En

set_option Elab.async false
set_option linter.all false
set_option maxRecDepth 100000
set_option maxHeartbeats 8000000
namespace En
open PySem PySem.Spec PyProof.Rows L2

/-! ### number_under, step by step: nodes, numbers and what is seen are its caller's -/
theorem Made.upo {H : Hp} {t a b c : Addr} {ns : List Nd} {o : HO} (m : Made H t a b ns) (ht : ∀ u, H c ≠ some (.tup u)) (ca : c ≠ a) (cb : c ≠ b) : Made (upd H c o) t a b ns := by
  obtain ⟨m1, ⟨cs, m2, ml, m3⟩, m4⟩ := m
  have ne : ∀ z u, H z = some (.tup u) → z ≠ c := fun z u e h => ht u (by rw [← h]; exact e)
  refine ⟨by rw [upd_ne (ne _ _ m1)]; exact m1, ⟨cs, ?_, ml, fun i z u e1 e2 => ?_⟩, by rw [upd_ne (Ne.symm cb)]; exact m4⟩
  · rw [upd_ne (Ne.symm ca)]
    exact m2
  · have := m3 i z u e1 e2
    rw [upd_ne (ne _ _ this)]
    exact this
theorem mu4 {H : Hp} {t a b c : Addr} {ns : List Nd} {S : List (Key × V)} (m : Made H t a b ns) (hc : H c = some (.dK S)) : ∀ z, mABC a b c z → ∃ o, H z = some o ∧ Mut (some o) := fun z h => by
  rcases h with h | h | h
  · exact m.mu z (.inl h)
  · exact m.mu z (.inr h)
  · rw [h]
    exact ⟨_, hc, trivial⟩
theorem putK_le2 (P : List (Key × V)) (k : Key) (v : V) : (putK P k v).length ≤ P.length + 1 := by
  unfold putK
  split
  · rw [List.length_map]
    omega
  · rw [List.length_append, List.length_singleton]
    exact Nat.le_refl _
structure UnPre (H : Hp) (t a b c : Addr) (ns : List Nd) (S : List (Key × V)) (v2 v4 : V) (one : List Nd) (over : Tx) (x p d : Nat) (tp : List Nat) : Prop where
  made : Made H t a b ns
  sn : H c = some (.dK S)
  ca : c ≠ a
  cb : c ≠ b
  dat : Dt H (fun z => ¬ mABC a b c z) v2 (.list (one.map ndD))
  ov : v4 = .str ⟨over.toArray⟩
  row : Row over.length over
  w9 : over.length ≤ 900
  D : Dep one over.length tp p d x
  pw : p ≤ over.length
  ok : UnOk one over over.length ns S
  room : ns.length + 2 ^ tp.length ≤ 2 ^ 19
  room2 : S.length + 2 ^ tp.length ≤ 2 ^ 19
noncomputable def unC (one : List Nd) (over : Tx) (x p : Nat) (ns : List Nd) : Nat × List Nd := canon (over.length - p) p (hU one over x p) ns
def spUn (n : Nat) : L2.Sp := fun vs H Q _ => vs.length = 5 ∧ n ≠ 0 ∧ ∃ (t a b c : Addr) (ns : List Nd) (S : List (Key × V)) (v2 v4 : V) (one : List Nd) (over : Tx) (x p d : Nat) (tp : List Nat), vs = [.ref t, .ref c, v2, .int (x : Int), v4] ∧ UnPre H t a b c ns S v2 v4 one over x p d tp ∧ tp.length < n ∧
  ∀ H' S', Out3 a b c H H' → Made H' t a b (unC one over x p ns).2 → H' c = some (.dK S') → UnOk one over over.length (unC one over x p ns).2 S' → S'.length + 1 ≤ S.length + 2 ^ tp.length → Q (.int ((unC one over x p ns).1 : Int)) H'
def uBlk : MSs := .cons (.unp [5, 6, 7] (.ix (.v 2) (.bin .Sub (.v 3) (.ki 2)))) .nil
def uC0 : ME := .cmp .Lt (.v 3) (.ki 2)
def uC1 (z : Str) : ME := .cmp .Eq (.ix (.v 4) (.v 5)) (.ks z)
def okUn (N : List Str) (sc : Scope) : List Stmt → Bool
  | [.If c0 [.Return (some (.Name n0 _)) _] [] _, .If (.Compare (.Name n1 _) [.NotIn] [.Name s1 _] _) [u1, .If c1 [.Assign [.Subscript (.Name s2 _) (.Name n2 _) _] (.Call (.Name f2 _) [.Name m2 _, .Name z2 _, .Name d2 _, .Name y2 _, .Name o2 _] [] _) _]
      [.If c2 [.Assign [.Subscript (.Name s3 _) (.Name n3 _) _] (.Call (.Name f3 _) [.Name m3 _, .Name z3 _, .Name d3 _, .Name y3 _, .Name o3 _] [] _) _]
        [.Assign [.Name lo p5] (.Call (.Name f4 _) [.Name m4 _, .Name z4 _, .Name d4 _, .Name y4 _, .Name o4 _] [] _) _, .Assign [.Name hi p6] (.Call (.Name f5 _) [.Name m5 _, .Name z5 _, .Name d5 _, .Name y5 _, .Name o5 _] [] _) _,
          .Assign [.Subscript (.Name s6 _) (.Name n6 _) _] (.Call (.Name f6 _) [.Name m6 _, .Name h6 _, .Name lo6 _, .Name hi6 _] [] _) _] _] _] [] _, .Return (some (.Subscript (.Name s7 _) (.Name n7 _) _)) _] =>
    (okE N sc uC0 c0 && slotOk N sc 3 n0 && slotOk N sc 3 n1 && slotOk N sc 1 s1 && okSs (exL []) N sc uBlk [u1] && okE N sc (uC1 "0") c1 && okE N sc (uC1 "1") c2) &&
    (slotOk N sc 1 s2 && slotOk N sc 3 n2 && decide (f2 = "number_under") && glOk sc f2 && slotOk N sc 0 m2 && slotOk N sc 1 z2 && slotOk N sc 2 d2 && slotOk N sc 6 y2 && slotOk N sc 4 o2) &&
    (slotOk N sc 1 s3 && slotOk N sc 3 n3 && decide (f3 = "number_under") && glOk sc f3 && slotOk N sc 0 m3 && slotOk N sc 1 z3 && slotOk N sc 2 d3 && slotOk N sc 7 y3 && slotOk N sc 4 o3) &&
    (tgOk N sc 8 (.Name lo p5) && decide (f4 = "number_under") && glOk sc f4 && slotOk N sc 0 m4 && slotOk N sc 1 z4 && slotOk N sc 2 d4 && slotOk N sc 6 y4 && slotOk N sc 4 o4) &&
    (tgOk N sc 9 (.Name hi p6) && decide (f5 = "number_under") && glOk sc f5 && slotOk N sc 0 m5 && slotOk N sc 1 z5 && slotOk N sc 2 d5 && slotOk N sc 7 y5 && slotOk N sc 4 o5) &&
    (slotOk N sc 1 s6 && slotOk N sc 3 n6 && decide (f6 = "node_of") && glOk sc f6 && slotOk N sc 0 m6 && slotOk N sc 5 h6 && slotOk N sc 8 lo6 && slotOk N sc 9 hi6 && slotOk N sc 1 s7 && slotOk N sc 3 n7)
  | _ => false
theorem uC0_ev {Γ : FT} {u0 u1 v2 : V} {one : List Nd} {x : Nat} {over : Tx} {s5 s6 s7 s8 s9 : Sl} : (evE Γ [.pt u0, .pt u1, .kn v2 true (.list (one.map ndD)), .fr false (.int (x : Int)), .fr false (tx over), s5, s6, s7, s8, s9] uC0).bind truth = .ok (decide (x < 2)) := by
  by_cases h : x < 2
  · have : (x : Int) < 2 := by omega
    simp [uC0, h, this]
  · have : ¬ (x : Int) < 2 := by omega
    simp [uC0, h, this]
theorem uC1_ev {Γ : FT} {u0 u1 v2 : V} {one : List Nd} {x q y : Nat} {over : Tx} {m5 : Bool} {s6 s7 s8 s9 : Sl} (hl : over.length ≤ 900) (hq : over[q]? = some y) : (evE Γ [.pt u0, .pt u1, .kn v2 true (.list (one.map ndD)), .fr false (.int (x : Int)), .fr false (tx over), .fr m5 (.int (q : Int)), s6, s7, s8, s9] (uC1 "0")).bind truth = .ok (decide (y = 48)) ∧
    (evE Γ [.pt u0, .pt u1, .kn v2 true (.list (one.map ndD)), .fr false (.int (x : Int)), .fr false (tx over), .fr m5 (.int (q : Int)), s6, s7, s8, s9] (uC1 "1")).bind truth = .ok (decide (y = 49)) := by
  have ix := ix_tx (sz _ (show over.length ≤ 16777216 by omega)) hq
  constructor <;> simp [uC1, ix]
theorem uBlk_fs {Γ : FT} {fuel : Nat} {X : Str → Prop} {B C : List Sl → Prop} {Q : Rv → Prop} {N : List Sl → Prop} {u0 u1 v2 : V} {one : List Nd} {k q a b : Nat} {over : Tx} (e : one[k]? = some (q, a, b))
    (hn : ∀ m5 m6 m7 : Bool, N [.pt u0, .pt u1, .kn v2 true (.list (one.map ndD)), .fr false (.int ((k + 2 : Nat) : Int)), .fr false (tx over), .fr m5 (.int (q : Int)), .fr m6 (.int (a : Int)), .fr m7 (.int (b : Int)), .no, .no]) :
    FS X B C Q (evSs Γ fuel uBlk [.pt u0, .pt u1, .kn v2 true (.list (one.map ndD)), .fr false (.int ((k + 2 : Nat) : Int)), .fr false (tx over), .no, .no, .no, .no, .no]) N := by
  have ix : semIx (.list (one.map ndD)) (.int (k : Int)) = some (ndD (q, a, b)) := ix_list (by rw [List.getElem?_map, e]; rfl)
  have kk : (((k + 2 : Nat) : Int) - 2) = (k : Int) := by omega
  generalize hK : ((k + 2 : Nat) : Int) = jj at *
  simp [uBlk, kk, ix]
  simp [ndD]
  exact hn _ _ _
theorem dep_node {ns : List Nd} {w : Nat} {tp : List Nat} {p d x : Nat} (D : Dep ns w tp p d x) (hx : ¬ x < 2) : ∃ k q a b d', x = k + 2 ∧ ns[k]? = some (q, a, b) ∧ p ≤ q ∧ q < w ∧ q ∈ tp ∧ Dep ns w tp q d x ∧ Dep ns w tp (q + 1) d' a ∧ Dep ns w tp (q + 1) d' b := by
  cases D with
  | no => exact absurd (by decide) hx
  | yes => exact absurd (by decide) hx
  | @node _ n k q a b e h1 h2 h3 h4 da db => exact ⟨k, q, a, b, n, rfl, e, h1, h2, h3, .node e (Nat.le_refl _) h2 h3 h4 da db, da, db⟩
section
variable {Γ : FT} {k : Nat}
theorem un_body {X : Cx} {E : XK} (ox : OkS X Γ E k (exL [])) (n : Nat) {fs fn : Addr} {fds fdn : FuncData} {pss psn : List Str}
    (Fs : FnOk X.prog X.w X.K X.mg X.base (L2.CX X.prog X.w) k fs fds pss (spUn n)) (ms : X.mg "number_under" = some (.ref fs)) (ks : PySem.W.keepIn X.K (.ref fs) = true) (bs : Binds X.K fds pss [])
    (Fn : FnOk X.prog X.w X.K X.mg X.base (L2.CX X.prog X.w) k fn fdn psn spNode) (mn : X.mg "node_of" = some (.ref fn)) (kn : PySem.W.keepIn X.K (.ref fn) = true) (bn : Binds X.K fdn psn [])
    (ss : List Stmt) (hc : okUn X.N X.env.scope ss = true) :
    PSs X ss (fun Dn σ H => ∃ (t a b c : Addr) (ns : List Nd) (S : List (Key × V)) (v2 v4 : V) (one : List Nd) (over : Tx) (x p d : Nat) (tp : List Nat), σ = [some (.ref t), some (.ref c), some v2, some (.int (x : Int)), some v4, none, none, none, none, none] ∧ UnPre H t a b c ns S v2 v4 one over x p d tp ∧ tp.length < n + 1 ∧
      ∀ H' S', Out3 a b c H H' → Made H' t a b (unC one over x p ns).2 → H' c = some (.dK S') → UnOk one over over.length (unC one over x p ns).2 S' → S'.length + 1 ≤ S.length + 2 ^ tp.length → Dn.rt (.int ((unC one over x p ns).1 : Int)) H') := by
  unfold okUn at hc
  split at hc
  · rename_i c0 n0 i1 i2 i3 n1 i4 s1 i5 i6 u1 c1 s2 i7 n2 i8 i9 f2 i10 m2 i11 z2 i12 d2 i13 y2 i14 o2 i15 i16 i17 c2 s3 j1 n3 j2 j3 f3 j4 m3 j5 z3 j6 d3 j7 y3 j8 o3 j9 j10 j11 lo p5 f4 j12 m4 j13 z4 j14 d4 j15 y4 j16 o4 j17 j18 j19 hi p6 f5 j20 m5 j21 z5 j22 d5 j23 y5 j24 o5 j25 j26 j27 s6 l1 n6 l2 l3 f6 l4 m6 l5 h6 l6 lo6 l7 hi6 l8 l9 l10 l11 l12 l13 s7 l14 n7 l15 l16 l17
    simp only [Bool.and_eq_true, decide_eq_true_eq] at hc
    obtain ⟨⟨⟨⟨⟨⟨⟨⟨⟨⟨⟨a1, a2⟩, a3⟩, a4⟩, a5⟩, a6⟩, a7⟩, ⟨⟨⟨⟨⟨⟨⟨⟨b1, b2⟩, rfl⟩, b3⟩, b4⟩, b5⟩, b6⟩, b7⟩, b8⟩⟩, ⟨⟨⟨⟨⟨⟨⟨⟨e1, e2⟩, rfl⟩, e3⟩, e4⟩, e5⟩, e6⟩, e7⟩, e8⟩⟩, ⟨⟨⟨⟨⟨⟨⟨g1, rfl⟩, g3⟩, g4⟩, g5⟩, g6⟩, g7⟩, g8⟩⟩, ⟨⟨⟨⟨⟨⟨⟨t1, rfl⟩, t3⟩, t4⟩, t5⟩, t6⟩, t7⟩, t8⟩⟩, ⟨⟨⟨⟨⟨⟨⟨⟨⟨v1, v2⟩, rfl⟩, v3⟩, v4⟩, v5⟩, v6⟩, v7⟩, v8⟩, v9⟩⟩ := hc
    obtain ⟨w5, w5'⟩ := tg_loc g1
    obtain ⟨w6, w6'⟩ := tg_loc t1
    have hu1 : X.A.units + 1 < cLine := by have := ox.ok.hu; omega
    have cp : ∀ (cls : Value) (d : Option Addr) (σ : L2.St) (H : Hp), E cls d H → E cls d H := fun _ _ _ _ q => q
    have rm : Room k X.A := ox.ok.room.mono (by omega)
    have call2 := pe_call (p := i10) (pos := i16) (X := X) Fs rm (gl_of b3).1 ms ks bs .nil (passes_call ox.ok.tk cp) (pa_cons (pe_v (pos := i11) b4) (pa_cons (pe_v (pos := i12) b5) (pa_cons (pe_v (pos := i13) b6) (pa_cons (pe_v (pos := i14) b7) (pa_cons (pe_v (pos := i15) b8) pa_nil))))) (gl_of b3).2 rfl rfl
    have call3 := pe_call (p := j4) (pos := j10) (X := X) Fs rm (gl_of e3).1 ms ks bs .nil (passes_call ox.ok.tk cp) (pa_cons (pe_v (pos := j5) e4) (pa_cons (pe_v (pos := j6) e5) (pa_cons (pe_v (pos := j7) e6) (pa_cons (pe_v (pos := j8) e7) (pa_cons (pe_v (pos := j9) e8) pa_nil))))) (gl_of e3).2 rfl rfl
    have call4 := pe_call (p := j12) (pos := j18) (X := X) Fs rm (gl_of g3).1 ms ks bs .nil (passes_call ox.ok.tk cp) (pa_cons (pe_v (pos := j13) g4) (pa_cons (pe_v (pos := j14) g5) (pa_cons (pe_v (pos := j15) g6) (pa_cons (pe_v (pos := j16) g7) (pa_cons (pe_v (pos := j17) g8) pa_nil))))) (gl_of g3).2 rfl rfl
    have call5 := pe_call (p := j20) (pos := j26) (X := X) Fs rm (gl_of t3).1 ms ks bs .nil (passes_call ox.ok.tk cp) (pa_cons (pe_v (pos := j21) t4) (pa_cons (pe_v (pos := j22) t5) (pa_cons (pe_v (pos := j23) t6) (pa_cons (pe_v (pos := j24) t7) (pa_cons (pe_v (pos := j25) t8) pa_nil))))) (gl_of t3).2 rfl rfl
    have call6 := pe_call (p := l4) (pos := l9) (X := X) Fn rm (gl_of v3).1 mn kn bn .nil (passes_call ox.ok.tk cp) (pa_cons (pe_v (pos := l5) v4) (pa_cons (pe_v (pos := l6) v5) (pa_cons (pe_v (pos := l7) v6) (pa_cons (pe_v (pos := l8) v7) pa_nil)))) (gl_of v3).2 rfl rfl
    have inner := sApp (fuel := 0) uBlk [u1] _ ox a5 (pss_cons (ps_if (pos := l12) (sE _ c1 ox.ok a6).2 (pss_cons (ps_dput (pos' := i9) (pos := i17) hu1 (pe_v (pos := i7) b1) (pe_v (pos := i8) b2) call2 rfl) pss_nil)
      (pss_cons (ps_if (pos := l11) (sE _ c2 ox.ok a7).2 (pss_cons (ps_dput (pos' := j3) (pos := j11) hu1 (pe_v (pos := j1) e1) (pe_v (pos := j2) e2) call3 rfl) pss_nil)
        (pss_cons (ps_set (pos := j19) (pos' := p5) ox.ok.nd w5 w5' call4 rfl (.inl (ox.fn _))) (pss_cons (ps_set (pos := j27) (pos' := p6) ox.ok.nd w6 w6' call5 rfl (.inl (ox.fn _)))
          (pss_cons (ps_dput (pos' := l3) (pos := l10) hu1 (pe_v (pos := l1) v1) (pe_v (pos := l2) v2) call6 rfl) pss_nil)))) pss_nil)) pss_nil)
    refine PSs.imp (pss_cons (ps_if (pos := i3) (sE _ c0 ox.ok a1).2 (pss_cons (ps_ret (pos := i2) (pe_v (pos := i1) a2)) pss_nil) pss_nil) (pss_cons (ps_if (pos := l13) (pt_cmp (pos := i6) (pc_dnotin hu1 (pe_v (pos := i4) a3) (pe_v (pos := i5) a4))) inner pss_nil)
      (pss_cons (ps_ret (pos := l17) (pe_dget (pos := l16) hu1 (pe_v (pos := l14) v8) (pe_v (pos := l15) v9) (fun _ _ => rfl))) pss_nil))) fun Dn σ H ⟨t, a, b, c, ns, S, u2, u4, one, over, x, p, d, tp, hσ, B, htp, q⟩ => ?_
    subst hσ
    have hov := B.ov
    subst hov
    have mu := mu4 B.made B.sn
    have l0 : 0 < 2 ^ tp.length := Nat.pow_pos (by decide)
    have k0 : EnvOk H (mABC a b c) H (mABC a b c) [some (.ref t), some (.ref c), some u2, some (.int (x : Int)), some (.str ⟨over.toArray⟩), none, none, none, none, none] [.pt (.ref t), .pt (.ref c), .kn u2 true (.list (one.map ndD)), .fr false (.int (x : Int)), .fr false (tx over), .no, .no, .no, .no, .no] := by
      refine ⟨rfl, Same.refl _, fun z hz => ⟨hz, fun z2 => ?_⟩, mu, fun i s e => ?_, fun i j m d m' d' a e => ?_⟩
      · obtain ⟨u, e, _⟩ := mu z hz
        rw [e] at z2
        cases z2
      · match i, e with
        | 0, e => cases e; rfl
        | 1, e => cases e; rfl
        | 2, e => cases e; exact ⟨rfl, B.dat.wk fun z h => ⟨h, fun z => by cases z⟩⟩
        | 3, e => cases e; exact ⟨_, rfl, .int _⟩
        | 4, e => cases e; exact ⟨_, rfl, .str _⟩
        | 5, e => cases e; trivial
        | 6, e => cases e; trivial
        | 7, e => cases e; trivial
        | 8, e => cases e; trivial
        | 9, e => cases e; trivial
        | i + 10, e => simp at e
      · match i, e with
        | 0, e => cases e
        | 1, e => cases e
        | 2, e => cases e
        | 3, e => cases e
        | 4, e => cases e
        | 5, e => cases e
        | 6, e => cases e
        | 7, e => cases e
        | 8, e => cases e
        | 9, e => cases e
        | i + 10, e => simp at e
    refine ⟨H, mABC a b c, mABC a b c, _, k0, ?_⟩
    rw [uC0_ev]
    intro H1 s1
    by_cases hx : x < 2
    · rw [decide_eq_true hx]
      have ec : unC one over x p ns = (x, ns) := under_end hx
      rw [ec] at q
      exact ⟨.int (x : Int), rfl, q H1 S (Out3.of s1) (B.made.same s1) (s1 _ _ B.sn) B.ok (by omega)⟩
    rw [decide_eq_false hx]
    have sn1 := s1 _ _ B.sn
    refine ⟨.int (x : Int), rfl, .ref c, rfl, c, valV S (.inl (x : Int)), rfl, DGet.k (k := .inl (x : Int)) sn1, _, rfl, ?_⟩
    cases hv : valV S (.inl (x : Int)) with
    | some v =>
      obtain ⟨r, rfl, er⟩ := B.ok.at hv B.pw B.D
      have er : unC one over x p ns = (r, ns) := er
      rw [er] at q
      refine ⟨.ref c, rfl, .int (x : Int), rfl, c, .int (r : Int), rfl, (by have dg := DGet.k (k := .inl (x : Int)) sn1; rw [hv] at dg; exact dg), ?_⟩
      exact q H1 S (Out3.of s1) (B.made.same s1) sn1 B.ok (by omega)
    | none =>
      obtain ⟨kk, qq, ya, yb, dn, rfl, eN, hpq, hqw, hqt, Dq, da, db⟩ := dep_node B.D hx
      refine ⟨H, mABC a b c, mABC a b c, _, k0.up s1, ?_⟩
      refine sp_fs (uBlk_fs (X := fun _ => False) (B := fun _ => False) (C := fun _ => False) (Q := fun _ => False) (fuel := 0) (u0 := .ref t) (u1 := .ref c) (v2 := u2) (over := over) (N := fun e => ∃ m5 m6 m7 : Bool, e = [.pt (.ref t), .pt (.ref c), .kn u2 true (.list (one.map ndD)), .fr false (.int ((kk + 2 : Nat) : Int)), .fr false (tx over), .fr m5 (.int (qq : Int)), .fr m6 (.int (ya : Int)), .fr m7 (.int (yb : Int)), .no, .no]) eN fun m5 m6 m7 => ⟨m5, m6, m7, rfl⟩) (fun r hr => False.elim hr) fun e he' σ3 H3 M3 k3 ev3 => ?_
      obtain ⟨m5, m6, m7, rfl⟩ := he'
      have al := above_lt hqt
      have pw2 := pow_two al
      have l1 : 0 < 2 ^ (above tp qq).length := Nat.pow_pos (by decide)
      have room := B.room
      have room2 := B.room2
      have hql : qq < over.length := hqw
      have oq := List.getElem?_eq_getElem hql
      have nm3 : ∀ z, mABC a b c z → M3 z := fun z hz => (k3.m0 z hz).1
      have y0 : σ3[0]? = some (some (.ref t)) := k3.sl 0 _ rfl
      have y1 : σ3[1]? = some (some (.ref c)) := k3.sl 1 _ rfl
      have y2 : σ3[2]? = some (some u2) := (k3.sl 2 _ rfl).1
      have dat3 : ∀ {H4 : Hp}, Same H3 H4 → Dt H4 (fun z => ¬ mABC a b c z) u2 (.list (one.map ndD)) := fun {H4} s => sm_dt s ((k3.sl 2 _ rfl).2.wk fun z hz => (fun h => hz.1 (nm3 z h)))
      have yi : ∀ (i : Nat) (m : Bool) (z : Int), [Sl.pt (.ref t), .pt (.ref c), .kn u2 true (.list (one.map ndD)), .fr false (.int ((kk + 2 : Nat) : Int)), .fr false (tx over), .fr m5 (.int (qq : Int)), .fr m6 (.int (ya : Int)), .fr m7 (.int (yb : Int)), .no, .no][i]? = some (.fr m (.int z)) → σ3[i]? = some (some (.int z)) := fun i m z h => by
        obtain ⟨v, e, t'⟩ := k3.sl i _ h
        cases t'
        exact e
      have y3 := yi 3 _ _ rfl
      have y5 := yi 5 _ _ rfl
      have y6 := yi 6 _ _ rfl
      have y7 := yi 7 _ _ rfl
      have y4 : σ3[4]? = some (some (.str ⟨over.toArray⟩)) := by
        obtain ⟨v, e, t'⟩ := k3.sl 4 _ rfl
        rw [dt_tx t'] at e
        exact e
      have ed := fun ns => under_down (one := one) (over := over) (w := over.length) (tp := tp) (qq - p) p qq ns (by omega) (by omega) Dq
      have fin : ∀ (Hf : Hp) (Sf : List (Key × V)) (r : Nat) (N : List Nd), unC one over (kk + 2) p ns = (r, N) → Out3 a b c H Hf → Made Hf t a b N → Hf c = some (.dK Sf) → UnOk one over over.length N Sf → Sf.length + 2 ≤ S.length + 2 ^ tp.length →
          Dn.rt (.int (r : Int)) (upd Hf c (.dK (putK Sf (.inl ((kk + 2 : Nat) : Int)) (.int (r : Int))))) := fun Hf Sf r N er o made sn ok hl => by
        rw [er] at q
        have pl := putK_le2 Sf (.inl ((kk + 2 : Nat) : Int)) (.int (r : Int))
        have eN2 : canon (over.length - p) p (hU one over (kk + 2) p) N = (r, N) := by
          have e2 := canon_again (over.length - p) p (hU one over (kk + 2) p) ns []
          have er' : canon (over.length - p) p (hU one over (kk + 2) p) ns = (r, N) := er
          rw [er', List.append_nil] at e2
          exact e2
        exact q _ _ (o.trans fun z u _ _ h3 e => by rw [upd_ne h3]; exact e) (made.upo (fun u h => by rw [sn] at h; cases h) B.ca B.cb) upd_same (ok.put B.pw B.D eN2) (by omega)
      have vput : ∀ (Sf : List (Key × V)) (r : Nat), valV (putK Sf (.inl ((kk + 2 : Nat) : Int)) (.int (r : Int))) (.inl ((kk + 2 : Nat) : Int)) = some (.int (r : Int)) := fun Sf r => by rw [valV_put, if_pos rfl]
      have ret : ∀ (Hf : Hp) (Sf : List (Key × V)) (r : Nat), DGet (upd Hf c (.dK (putK Sf (.inl ((kk + 2 : Nat) : Int)) (.int (r : Int))))) c (.int ((kk + 2 : Nat) : Int)) (some (.int (r : Int))) := fun Hf Sf r => by
        have dg := DGet.k (k := .inl ((kk + 2 : Nat) : Int)) (show (upd Hf c (.dK (putK Sf (.inl ((kk + 2 : Nat) : Int)) (.int (r : Int))))) c = _ from upd_same)
        rw [vput] at dg
        exact dg
      refine ⟨H, mABC a b c, M3, _, k3, ?_⟩
      rw [(uC1_ev B.w9 oq).1]
      intro H4 s4
      have s04 := k3.same.trans s4
      have made4 := B.made.same s04
      have sn4 := s04 _ _ B.sn
      by_cases h0 : over[qq] = 48
      · rw [decide_eq_true h0]
        have ec : unC one over (kk + 2) p ns = unC one over ya (qq + 1) ns := (ed ns).trans (by
          have := under_told (w := over.length) (tp := tp) (ns := ns) hqw eN da db oq (by rw [h0]; decide)
          rwa [if_neg (by rw [h0]; decide)] at this)
        refine ⟨.ref t, y0, .ref c, y1, u2, y2, .int (ya : Int), y6, .str ⟨over.toArray⟩, y4, rfl, by omega, t, a, b, c, ns, S, u2, .str ⟨over.toArray⟩, one, over, ya, qq + 1, dn, above tp qq, rfl, ⟨made4, sn4, B.ca, B.cb, dat3 s4, rfl, B.row, B.w9, da.above (by omega), by omega, B.ok, by omega, by omega⟩, by omega, fun H6 S6 o6 made6 sn6 ok6 len6 => ?_⟩
        generalize unC one over ya (qq + 1) ns = C at *
        obtain ⟨r, N⟩ := C
        refine ⟨.ref c, y1, .int ((kk + 2 : Nat) : Int), y3, c, _, rfl, DPut.k (k := .inl ((kk + 2 : Nat) : Int)) sn6 (slt (by omega)), ?_⟩
        exact ⟨.ref c, y1, .int ((kk + 2 : Nat) : Int), y3, c, .int (r : Int), rfl, ret H6 S6 r, fin H6 S6 r N ec ((Out3.of s04).trans o6) made6 sn6 ok6 (by omega)⟩
      rw [decide_eq_false h0]
      refine ⟨H, mABC a b c, M3, _, k3.up s4, ?_⟩
      rw [(uC1_ev B.w9 oq).2]
      intro H5 s5
      have s05 := s04.trans s5
      have made5 := B.made.same s05
      have sn5 := s05 _ _ B.sn
      by_cases h1 : over[qq] = 49
      · rw [decide_eq_true h1]
        have ec : unC one over (kk + 2) p ns = unC one over yb (qq + 1) ns := (ed ns).trans (by
          have := under_told (w := over.length) (tp := tp) (ns := ns) hqw eN da db oq (by rw [h1]; decide)
          rwa [if_pos h1] at this)
        refine ⟨.ref t, y0, .ref c, y1, u2, y2, .int (yb : Int), y7, .str ⟨over.toArray⟩, y4, rfl, by omega, t, a, b, c, ns, S, u2, .str ⟨over.toArray⟩, one, over, yb, qq + 1, dn, above tp qq, rfl, ⟨made5, sn5, B.ca, B.cb, dat3 (s4.trans s5), rfl, B.row, B.w9, db.above (by omega), by omega, B.ok, by omega, by omega⟩, by omega, fun H6 S6 o6 made6 sn6 ok6 len6 => ?_⟩
        generalize unC one over yb (qq + 1) ns = C at *
        obtain ⟨r, N⟩ := C
        refine ⟨.ref c, y1, .int ((kk + 2 : Nat) : Int), y3, c, _, rfl, DPut.k (k := .inl ((kk + 2 : Nat) : Int)) sn6 (slt (by omega)), ?_⟩
        exact ⟨.ref c, y1, .int ((kk + 2 : Nat) : Int), y3, c, .int (r : Int), rfl, ret H6 S6 r, fin H6 S6 r N ec ((Out3.of s05).trans o6) made6 sn6 ok6 (by omega)⟩
      rw [decide_eq_false h1]
      have h45 : over[qq] = 45 := by
        rcases B.row.2 _ (List.getElem_mem hql) with h | h | h
        · exact absurd h h0
        · exact absurd h h1
        · exact h
      have ea : unC one over (kk + 2) p ns = nodeN (unC one over yb (qq + 1) (unC one over ya (qq + 1) ns).2).2 qq (unC one over ya (qq + 1) ns).1 (unC one over yb (qq + 1) (unC one over ya (qq + 1) ns).2).1 := (ed ns).trans (under_at (w := over.length) (tp := tp) hqw eN da db (by rw [oq, h45]))
      have gr0 := under_grow B.row _ (above tp qq) ya (qq + 1) dn ns (Nat.le_refl _) (by omega) (da.above (by omega))
      have gr0 : (unC one over ya (qq + 1) ns).2.length + 1 ≤ ns.length + 2 ^ (above tp qq).length := gr0
      have gr1 : (unC one over yb (qq + 1) (unC one over ya (qq + 1) ns).2).2.length + 1 ≤ (unC one over ya (qq + 1) ns).2.length + 2 ^ (above tp qq).length := under_grow B.row _ (above tp qq) yb (qq + 1) dn _ (Nat.le_refl _) (by omega) (db.above (by omega))
      refine ⟨.ref t, y0, .ref c, y1, u2, y2, .int (ya : Int), y6, .str ⟨over.toArray⟩, y4, rfl, by omega, t, a, b, c, ns, S, u2, .str ⟨over.toArray⟩, one, over, ya, qq + 1, dn, above tp qq, rfl, ⟨made5, sn5, B.ca, B.cb, dat3 (s4.trans s5), rfl, B.row, B.w9, da.above (by omega), by omega, B.ok, by omega, by omega⟩, by omega, fun H6 S6 o6 made6 sn6 ok6 len6 => ?_⟩
      have k6 := (((k3.up (s4.trans s5)).over o6.k (mu4 made6 sn6)).set_fr (i := 8) (m := false) (d := .int ((unC one over ya (qq + 1) ns).1 : Int)) (.int _) (by simp))
      have o16 : Out3 a b c H H6 := (Out3.of s05).trans o6
      generalize En.over (mABC a b c) H H6 = Ho at *
      generalize unC one over ya (qq + 1) ns = A at *
      obtain ⟨r1, N1⟩ := A
      dsimp only at made6 ok6 k6 gr0 gr1 ea ⊢
      have k6 : EnvOk Ho (mABC a b c) H6 M3 (σ3.set 8 (some (.int (r1 : Int)))) [.pt (.ref t), .pt (.ref c), .kn u2 true (.list (one.map ndD)), .fr false (.int ((kk + 2 : Nat) : Int)), .fr false (tx over), .fr m5 (.int (qq : Int)), .fr m6 (.int (ya : Int)), .fr m7 (.int (yb : Int)), .fr false (.int (r1 : Int)), .no] := k6
      have st : ∀ (i : Nat) (u : Option (Option V)), i ≠ 8 → σ3[i]? = u → (σ3.set 8 (some (V.int (r1 : Int))))[i]? = u := fun i u hi e => by rw [List.getElem?_set_ne (Ne.symm hi)]; exact e
      have dat6 : Dt H6 (fun z => ¬ mABC a b c z) u2 (.list (one.map ndD)) := (k6.sl 2 _ rfl).2.wk fun z hz => (fun h => hz.1 (nm3 z h))
      refine ⟨.ref t, st 0 _ (by decide) y0, .ref c, st 1 _ (by decide) y1, u2, st 2 _ (by decide) y2, .int (yb : Int), st 7 _ (by decide) y7, .str ⟨over.toArray⟩, st 4 _ (by decide) y4, rfl, by omega, t, a, b, c, N1, S6, u2, .str ⟨over.toArray⟩, one, over, yb, qq + 1, dn, above tp qq, rfl, ⟨made6, sn6, B.ca, B.cb, dat6, rfl, B.row, B.w9, db.above (by omega), by omega, ok6, by omega, by omega⟩, by omega, fun H8 S8 o8 made8 sn8 ok8 len8 => ?_⟩
      have o18 := o16.trans o8
      generalize unC one over yb (qq + 1) N1 = Bb at *
      obtain ⟨r2, N2⟩ := Bb
      dsimp only at made8 ok8 gr1 ea ⊢
      have ls : σ3.length = 10 := k3.len
      have st2 : ∀ (i : Nat) (u : Option (Option V)), i ≠ 8 → i ≠ 9 → σ3[i]? = u → ((σ3.set 8 (some (V.int (r1 : Int)))).set 9 (some (V.int (r2 : Int))))[i]? = u := fun i u hi hj e => by rw [List.getElem?_set_ne (Ne.symm hj), List.getElem?_set_ne (Ne.symm hi)]; exact e
      have g8 : ((σ3.set 8 (some (V.int (r1 : Int)))).set 9 (some (V.int (r2 : Int))))[8]? = some (some (.int (r1 : Int))) := by rw [List.getElem?_set_ne (by decide), List.getElem?_set_self (by omega)]
      have g9 : ((σ3.set 8 (some (V.int (r1 : Int)))).set 9 (some (V.int (r2 : Int))))[9]? = some (some (.int (r2 : Int))) := by rw [List.getElem?_set_self (by rw [List.length_set]; omega)]
      refine ⟨.ref t, st2 0 _ (by decide) (by decide) y0, .int (qq : Int), st2 5 _ (by decide) (by decide) y5, .int (r1 : Int), g8, .int (r2 : Int), g9, rfl, t, a, b, N2, qq, r1, r2, rfl, made8, by omega, fun H9 o9 made9 => ?_⟩
      have sn9 : H9 c = some (.dK S8) := o9 c _ B.ca B.cb sn8
      have o19 : Out3 a b c H H9 := o18.trans fun z u h1 h2 _ e => o9 z u h1 h2 e
      obtain ⟨mo, emo⟩ := node_pre N2 qq r1 r2
      have ok9 : UnOk one over over.length (nodeN N2 qq r1 r2).2 S8 := by rw [emo]; exact ok8.more
      generalize nodeN N2 qq r1 r2 = R at *
      obtain ⟨r, N⟩ := R
      refine ⟨.ref c, st2 1 _ (by decide) (by decide) y1, .int ((kk + 2 : Nat) : Int), st2 3 _ (by decide) (by decide) y3, c, _, rfl, DPut.k (k := .inl ((kk + 2 : Nat) : Int)) sn9 (slt (by omega)), ?_⟩
      exact ⟨.ref c, st2 1 _ (by decide) (by decide) y1, .int ((kk + 2 : Nat) : Int), st2 3 _ (by decide) (by decide) y3, c, .int (r : Int), rfl, ret H9 S8 r, fin H9 S8 r N ea o19 made9 sn9 ok9 (by omega)⟩
  · cases hc
end
end En

set_option Elab.async false
set_option linter.all false
set_option maxRecDepth 100000
set_option maxHeartbeats 8000000
namespace En
open PySem PySem.Spec PyProof.Rows L2

/-! ### graph_under, graph_other: what is told -/
noncomputable def underN (g : Nat × List Nd) (over : Tx) : Nat × List Nd := unC g.2 over g.1 0 []
def UnIn (ds : List D) (g : Nat × List Nd) (over : Tx) : Prop := ds = [grD g, tx over] ∧ Row over.length over ∧ over.length ≤ 900 ∧ ∃ tp d, Dep g.2 over.length tp 0 d g.1 ∧ tp.length ≤ 8
open Classical in
noncomputable def underG (ds : List D) : R Rv := if h : ∃ (g : Nat × List Nd) (over : Tx), UnIn ds g over then .ok (.fr false (grD (underN h.choose h.choose_spec.choose))) else .bad
theorem unIn_same {ds : List D} {g g' : Nat × List Nd} {over over' : Tx} (a : UnIn ds g over) (b : UnIn ds g' over') : underN g' over' = underN g over := by
  obtain ⟨e, _⟩ := a
  obtain ⟨e', _⟩ := b
  rw [e] at e'
  simp only [List.cons.injEq, and_true] at e'
  rw [grD_inj e'.1, tx_inj.mp e'.2]
theorem underG_eq {g : Nat × List Nd} {over : Tx} (U : UnIn [grD g, tx over] g over) : underG [grD g, tx over] = .ok (.fr false (grD (underN g over))) := by
  have h : ∃ (g' : Nat × List Nd) (over' : Tx), UnIn [grD g, tx over] g' over' := ⟨g, over, U⟩
  unfold underG
  rw [dif_pos h, unIn_same U h.choose_spec.choose_spec]
theorem underG_or (ds : List D) : underG ds = .bad ∨ ∃ r, underG ds = .ok (.fr false (grD r)) := by
  unfold underG
  split
  · exact .inr ⟨_, rfl⟩
  · exact .inl rfl
def unE (j : Int) : ME := .ix (.v 0) (.ki j)
theorem unE_ev {Γ : FT} {g : Nat × List Nd} {s1 s2 s3 : Sl} : evE Γ [.fr true (grD g), s1, s2, s3] (unE 1) = .ok (.fr true (.list (g.2.map ndD))) ∧ evE Γ [.fr true (grD g), s1, s2, s3] (unE 0) = .ok (.fr false (.int (g.1 : Int))) := by
  constructor <;> simp [unE, M.semIx0, M.semIx1]
def okGUn (N : List Str) (sc : Scope) : List Stmt → Bool
  | [.Assign [.Name md p1] (.Tuple [.List [] _, .Dict [] [] _] _ _) _, .Assign [.Name rt p2] (.Call (.Name f _) [.Name md2 _, .Dict [] [] _, c1, c2, .Name wd _] [] _) _, .Return (some (.Tuple [.Name rt2 _, .Subscript (.Name md3 _) ix _] _ _)) _] =>
    tgOk N sc 2 (.Name md p1) && tgOk N sc 3 (.Name rt p2) && decide (f = "number_under") && glOk sc f && slotOk N sc 2 md2 && okE N sc (unE 1) c1 && okE N sc (unE 0) c2 && slotOk N sc 1 wd && slotOk N sc 3 rt2 && slotOk N sc 2 md3 && okE N sc (.ki 0) ix
  | _ => false
section
variable {Γ : FT} {k : Nat}
theorem gun_body {X : Cx} {E : XK} (o : OkS X Γ E k (exL [])) {fs : Addr} {fds : FuncData} {pss : List Str}
    (Fs : FnOk X.prog X.w X.K X.mg X.base (L2.CX X.prog X.w) k fs fds pss (spUn 9)) (ms : X.mg "number_under" = some (.ref fs)) (ks : PySem.W.keepIn X.K (.ref fs) = true) (bs : Binds X.K fds pss [])
    (ss : List Stmt) (hc : okGUn X.N X.env.scope ss = true) :
    PSs X ss (fun Dn σ H => ∃ (v0 v1 : V) (Ms : AS) (g : Nat × List Nd) (over : Tx), σ = [some v0, some v1, none, none] ∧ (∀ a, Ms a → ∃ o, H a = some o ∧ Mut (some o)) ∧ Dt H (fun a => ¬ Ms a) v0 (grD g) ∧ v1 = .str ⟨over.toArray⟩ ∧ UnIn [grD g, tx over] g over ∧
      ∀ u H', Same H H' → Gr H H' u (underN g over) → Dn.rt u H') := by
  unfold okGUn at hc
  split at hc
  · rename_i md p1 q1 q2 q3 q4 q5 rt p2 f q6 md2 q7 q8 c1 c2 wd q9 q10 q11 rt2 q12 md3 q13 ix q14 q15 q16 q17
    simp only [Bool.and_eq_true, decide_eq_true_eq] at hc
    obtain ⟨⟨⟨⟨⟨⟨⟨⟨⟨⟨g1, g2⟩, rfl⟩, g3⟩, g4⟩, g5⟩, g5'⟩, g6⟩, g7⟩, g8⟩, g9⟩ := hc
    obtain ⟨w1, w1'⟩ := tg_loc g1
    obtain ⟨w2, w2'⟩ := tg_loc g2
    have cp : ∀ (cls : Value) (d : Option Addr) (σ : L2.St) (H : Hp), E cls d H → E cls d H := fun _ _ _ _ q => q
    have rm : Room k X.A := o.ok.room.mono (by omega)
    have call1 := pe_call (p := q6) (pos := q10) (X := X) Fs rm (gl_of g3).1 ms ks bs .nil (passes_call o.ok.tk cp) (pa_cons (pe_v (pos := q7) g4) (pa_cons (pe_dnewK (X := X) (pos := q8)) (pa_cons (sE _ c1 o.ok g5).1 (pa_cons (sE _ c2 o.ok g5').1 (pa_cons (pe_v (pos := q9) g6) pa_nil) (star_cons g5' _ _)) (star_cons g5 _ _)))) (gl_of g3).2 rfl (back_any _ _ (by show ((false, eval _ _) :: starEach (c1 :: c2 :: [Expr.Name wd q9]) X.env).any (fun x => x.1) = false; rw [star_cons g5, star_cons g5']; rfl))
    refine PSs.imp (pss_cons (ps_set (pos := q5) (pos' := p1) o.ok.nd w1 w1' (pe_tup (pa_cons (pe_lst pa_nil) (pa_cons (pe_dnewT (X := X)) pa_nil))) rfl (.inl (o.fn _))) (pss_cons (ps_set (pos := q11) (pos' := p2) o.ok.nd w2 w2' call1 rfl (.inl (o.fn _)))
      (pss_cons (ps_ret (pos := q17) (pe_tup (pa_cons (pe_v (pos := q12) g7) (pa_cons (pe_ix L2.ix_tup (pe_v (pos := q13) g8) (sE _ ix o.ok g9).1 (plain_ix g9)) pa_nil)))) pss_nil))) fun Dn σ H ⟨v0, v1, Ms, g, over, hσ, hM, hD1, hv1, U, q⟩ => ?_
    subst hσ
    subst hv1
    refine ⟨sz _ (by decide), fun a ha => ?_⟩
    have sa : Same H (upd H a (.lst [])) := same_new ha
    have la : (upd H a (.lst [])) a = some (.lst []) := upd_same
    generalize upd H a (.lst []) = H1 at *
    intro b hb
    have sb : Same H1 (upd H1 b (.dT [])) := same_new hb
    have lb : (upd H1 b (.dT [])) b = some (.dT []) := upd_same
    generalize upd H1 b (.dT []) = H2 at *
    refine ⟨sz _ (show 2 ≤ 16777216 by decide), fun t ht => ?_⟩
    have st : Same H2 (upd H2 t (.tup [.ref a, .ref b])) := same_new ht
    have lt : (upd H2 t (.tup [.ref a, .ref b])) t = some (.tup [.ref a, .ref b]) := upd_same
    generalize upd H2 t (.tup [.ref a, .ref b]) = H3 at *
    have hb0 : H b = none := sa.free hb
    have s03 : Same H H3 := (sa.trans sb).trans st
    have made : Made H3 t a b [] := ⟨lt, ⟨[], st _ _ (sb _ _ la), rfl, fun i c z e => by simp at e⟩, st _ _ lb⟩
    refine ⟨.ref t, rfl, ?_⟩
    intro c hc
    have sc : Same H3 (upd H3 c (.dK [])) := same_new hc
    have lc : (upd H3 c (.dK [])) c = some (.dK []) := upd_same
    generalize upd H3 c (.dK []) = H4 at *
    have hc0 : H c = none := s03.free hc
    have s04 := s03.trans sc
    have cb : c ≠ b := fun z => by rw [z, st _ _ lb] at hc; cases hc
    have ca : c ≠ a := fun z => by rw [z, st _ _ (sb _ _ la)] at hc; cases hc
    have made4 := made.same sc
    have fresh : ∀ z, mABC a b c z → H z = none := fun z h => by
      rcases h with rfl | rfl | rfl
      · exact ha
      · exact hb0
      · exact hc0
    have goD : ∀ {v : V} {d : D}, Dt H (fun z => ¬ Ms z) v d → Dt H4 (fun z => ¬ (Ms z ∨ mABC a b c z)) v d := fun {v d} h => Dt.go (fun z u l e => ⟨s04 _ _ e, fun h => h.elim l fun h => by rw [fresh z h] at e; cases e⟩) (fun z u r => sm_rd s04 r) _ _ h
    have mu5 := mu4 made4 lc
    have k4 : EnvOk H Ms H4 (fun z => Ms z ∨ mABC a b c z) [some v0, some (.str ⟨over.toArray⟩), some (.ref t), none] [.fr true (grD g), .no, .no, .no] := by
      refine ⟨rfl, s04, fun z hz => ⟨.inl hz, fun z2 => ?_⟩, fun z hz => ?_, fun i s e => ?_, fun i j m d m' d' a e => ?_⟩
      · obtain ⟨u, e, _⟩ := hM z hz
        rw [e] at z2
        cases z2
      · rcases hz with hz | hz
        · obtain ⟨u, e, mu⟩ := hM z hz
          exact ⟨u, s04 _ _ e, mu⟩
        · exact mu5 z hz
      · match i, e with
        | 0, e => cases e; exact ⟨_, rfl, (goD hD1).wk fun z h => ⟨h, fun z => by cases z⟩⟩
        | 1, e => cases e; trivial
        | 2, e => cases e; trivial
        | 3, e => cases e; trivial
        | i + 4, e => simp at e
      · match i, e with
        | 0, e => cases e
        | 1, e => cases e
        | 2, e => cases e
        | 3, e => cases e
        | i + 4, e => simp at e
    refine ⟨H, Ms, _, _, k4, ?_⟩
    rw [unE_ev.1]
    intro v5 H5 s5 rv5
    have rv5 : Dt H5 (Lm H (fun z => Ms z ∨ mABC a b c z) true) v5 (.list (g.2.map ndD)) := rv5
    refine ⟨H, Ms, _, _, k4.up s5, ?_⟩
    rw [unE_ev.2]
    intro v5' H5' s5' rv5'
    have rv5' : Dt H5' _ v5' (.int (g.1 : Int)) := rv5'
    cases rv5'
    obtain ⟨_, ur, u9, tp, d, uD, utp⟩ := U
    have p8 := Nat.pow_le_pow_right (n := 2) (by decide) utp
    refine ⟨.str ⟨over.toArray⟩, rfl, rfl, by decide, t, a, b, c, [], [], v5, .str ⟨over.toArray⟩, g.2, over, g.1, 0, d, tp, rfl, ⟨made4.same (s5.trans s5'), s5' _ _ (s5 _ _ lc), ca, cb, sm_dt s5' (rv5.wk fun z h => (fun h2 => h.1 (.inr h2))), rfl, ur, u9, uD, by omega, (fun x v e => by rw [valV_nil] at e; cases e), by simp only [List.length_nil]; omega, by simp only [List.length_nil]; omega⟩, by omega, fun H6 P6 o6 made6 prs6 _ _ => ?_⟩
    have s06 : Same H H6 := fun z u e => o6 z u (fun h => by rw [h, ha] at e; cases e) (fun h => by rw [h, hb0] at e; cases e) (fun h => by rw [h, hc0] at e; cases e) (s5' _ _ (s5 _ _ (s04 _ _ e)))
    have q : ∀ u H', Same H H' → Gr H H' u (unC g.2 over g.1 0 []) → Dn.rt u H' := q
    generalize unC g.2 over g.1 0 [] = gg at *
    obtain ⟨root, nds⟩ := gg
    dsimp only at made6 q ⊢
    obtain ⟨m1, ⟨cs, m2, ml, m3⟩, m4⟩ := made6
    refine ⟨.int (root : Int), rfl, .ref t, rfl, H6, fun _ => False, fun _ => False, _, env_no H6 _, ?_⟩
    have e0 : ∀ env : List Sl, evE Γ env (.ki 0) = .ok (.fr false (.int 0)) := fun env => by simp
    rw [e0]
    intro v7 H7 s7 rv7
    have rv7 : Dt H7 _ v7 (.int 0) := rv7
    cases rv7
    refine ⟨t, [.ref a, .ref b], 0, .ref a, rfl, rfl, .inl (.inl (s7 _ _ m1)), rfl, sz _ (show 2 ≤ 16777216 by decide), fun z hz => ?_⟩
    have sz8 : Same H7 (upd H7 z (.tup [.int (root : Int), .ref a])) := same_new hz
    have lz : (upd H7 z (.tup [.int (root : Int), .ref a])) z = some (.tup [.int (root : Int), .ref a]) := upd_same
    generalize upd H7 z (.tup [.int (root : Int), .ref a]) = H8 at *
    have s68 : Same H6 H8 := s7.trans sz8
    exact q (.ref z) H8 (s06.trans s68) ⟨z, a, cs.map V.ref, rfl, lz, s68 _ _ m2, nds_dts s68 cs nds ⟨ml, m3⟩, ha⟩
  · cases hc
end
/-! graph_other -/
namespace M
def turned : MF := ⟨1, (.cons (.ife (.cmp .Lt (.v 0) (.ki 2)) (.cons (.ret (.bin .Sub (.ki 1) (.v 0))) .nil) .nil) (.cons (.ret (.v 0)) .nil))⟩
theorem turned_eq {Γ : FT} {n : Nat} (x : Nat) : runF Γ n turned [.int (x : Int)] = .ok (.fr false (.int (teN x : Int))) := by
  have main : RS (fun _ => False) (runF Γ n turned [.int (x : Int)]) fun v => v = .fr false (.int (teN x : Int)) := by
    refine rs_run ?_
    by_cases h : x < 2
    · have h2 : (x : Int) < 2 := by omega
      have e : teN x = 1 - x := if_pos h
      have e2 : (1 - (x : Int)) = ((1 - x : Nat) : Int) := by omega
      simp [turned, startE, h2, e, e2]
    · have h2 : ¬ (x : Int) < 2 := by omega
      have e : teN x = x := if_neg h
      simp [turned, startE, h2, e]
  obtain ⟨a, e, rfl⟩ := rs_eq main
  exact e
def TurnAt (Γ : FT) : Prop := ∃ Γ' n, Γ "turned_end" = some (1, fun ds => runF Γ' n turned ds)
def othBlk : MSs := .cons (.unp [1, 2] (.v 0)) .nil
def othE1 : ME := .call "turned_end" (.cons (.v 1) .nil)
def othE2 : ME := .lc (.t [3, 4, 5]) (.e (.v 2)) .no (.tup (.cons (.v 3) (.cons (.call "turned_end" (.cons (.v 4) .nil)) (.cons (.call "turned_end" (.cons (.v 5) .nil)) .nil))))
theorem othBlk_fs {Γ : FT} {fuel : Nat} {X : Str → Prop} {B C : List Sl → Prop} {Q : Rv → Prop} {N : List Sl → Prop} {g : Nat × List Nd} (hn : ∀ m1 m2 : Bool, N [.fr true (grD g), .fr m1 (.int (g.1 : Int)), .fr m2 (.list (g.2.map ndD)), .no, .no, .no]) :
    FS X B C Q (evSs Γ fuel othBlk [.fr true (grD g), .no, .no, .no, .no, .no]) N := by
  simp [othBlk, grD]
  exact hn _ _
theorem othE_ev {Γ : FT} (h : TurnAt Γ) {g : Nat × List Nd} (hf : g.2.length ≤ 2 ^ 20) {s0 s3 s4 s5 : Sl} {m1 m2 : Bool} : evE Γ [s0, .fr m1 (.int (g.1 : Int)), .fr m2 (.list (g.2.map ndD)), s3, s4, s5] othE1 = .ok (.fr false (.int (teN g.1 : Int))) ∧
    evE Γ [s0, .fr m1 (.int (g.1 : Int)), .fr m2 (.list (g.2.map ndD)), s3, s4, s5] othE2 = .ok (.ow false (.list ((g.2.map turnN).map ndD))) := by
  obtain ⟨Γ1, n1, e1⟩ := h
  constructor
  · simp [othE1, e_call e1, turned_eq]
  · have m2 : RS (fun _ => False) (evE Γ [s0, .fr m1 (.int (g.1 : Int)), .fr m2 (.list (g.2.map ndD)), s3, s4, s5] othE2) fun v => v = .ow false (.list ((g.2.map turnN).map ndD)) := by
      simp [othE2]
      refine rs_lc (fun i m L => m = false ∧ L = ((g.2.map turnN).take i).map ndD) ⟨rfl, rfl⟩ (fun i d m L hd' h => ?_) (fun m L h => ?_)
      · obtain ⟨rfl, rfl⟩ := h
        obtain ⟨hi, rfl⟩ := map_at hd'
        have e2 : ndD g.2[i] = .tuple [.int (g.2[i].1 : Int), .int (g.2[i].2.1 : Int), .int (g.2[i].2.2 : Int)] := rfl
        rw [e2]
        simp [lcT, e_call e1, turned_eq, sz 3 (by decide)]
        rw [take_get (l := g.2.map (ndD ∘ turnN)) (a := ndD (turnN g.2[i])) (by rw [List.getElem?_map, List.getElem?_eq_getElem hi]; rfl)]
        rfl
      · obtain ⟨rfl, rfl⟩ := h
        rw [List.length_map, List.take_of_length_le (by simp)]
        simp
        exact sz _ (by omega)
    obtain ⟨a, e, rfl⟩ := rs_eq m2
    exact e
end M
def otherN (g : Nat × List Nd) : Nat × List Nd := (teN g.1, g.2.map turnN)
def OthIn (ds : List D) (g : Nat × List Nd) : Prop := ds = [grD g] ∧ g.2.length ≤ 2 ^ 20
open Classical in
noncomputable def otherG (ds : List D) : R Rv := if h : ∃ g, OthIn ds g then .ok (.fr false (grD (otherN h.choose))) else .bad
theorem otherG_eq {g : Nat × List Nd} (hf : g.2.length ≤ 2 ^ 20) : otherG [grD g] = .ok (.fr false (grD (otherN g))) := by
  have h : ∃ g', OthIn [grD g] g' := ⟨g, rfl, hf⟩
  unfold otherG
  rw [dif_pos h]
  have e := h.choose_spec.1
  simp only [List.cons.injEq, and_true] at e
  rw [← grD_inj e]
theorem otherG_or (ds : List D) : otherG ds = .bad ∨ ∃ r, otherG ds = .ok (.fr false (grD r)) := by
  unfold otherG
  split
  · exact .inr ⟨_, rfl⟩
  · exact .inl rfl
theorem imms_nd (l : List Nd) : imms (l.map ndD) = true := by
  induction l with
  | nil => simp
  | cons z l ih =>
    have e : imm (ndD z) = true := by
      obtain ⟨a, b, c⟩ := z
      rfl
    rw [List.map_cons, imms_cons, e, ih]
    rfl
def okOth (N : List Str) (sc : Scope) : List Stmt → Bool
  | [s0, .Return (some (.Tuple [e1, e2] _ _)) _] => okSs (exL []) N sc M.othBlk [s0] && okE N sc M.othE1 e1 && okE N sc M.othE2 e2
  | _ => false
section
variable {Γ : FT} {k : Nat}
theorem oth_body {X : Cx} {E : XK} (ox : OkS X Γ E k (exL [])) (ht : M.TurnAt Γ) (ss : List Stmt) (hc : okOth X.N X.env.scope ss = true) :
    PSs X ss (fun Dn σ H => ∃ (Ms : AS) (g : Nat × List Nd), EnvOk H Ms H Ms σ [.fr true (grD g), .no, .no, .no, .no, .no] ∧ g.2.length ≤ 2 ^ 20 ∧ ∀ u H', Same H H' → Gr H H' u (otherN g) → Dn.rt u H') := by
  unfold okOth at hc
  split at hc
  · rename_i s0 e1 e2 q1 q2 q3
    simp only [Bool.and_eq_true] at hc
    obtain ⟨⟨h0, h1⟩, h2⟩ := hc
    refine PSs.imp (sApp (fuel := 0) M.othBlk [s0] _ ox h0 (pss_cons (ps_ret (pos := q3) (pe_tup (x1 := q1) (pos := q2) (pa_cons (sE _ e1 ox.ok h1).1 (pa_cons (sE _ e2 ox.ok h2).1 pa_nil (star_cons h2 _ _)) (star_cons h1 _ _)))) pss_nil)) fun Dn σ H ⟨Ms, g, eo, hf, q⟩ => ?_
    refine ⟨H, Ms, Ms, _, eo, ?_⟩
    refine sp_fs (M.othBlk_fs (X := fun _ => False) (B := fun _ => False) (C := fun _ => False) (Q := fun _ => False) (fuel := 0) (N := fun e => ∃ m1 m2 : Bool, e = [.fr true (grD g), .fr m1 (.int (g.1 : Int)), .fr m2 (.list (g.2.map ndD)), .no, .no, .no]) fun m1 m2 => ⟨m1, m2, rfl⟩) (fun r hr => False.elim hr) fun e he σ1 H1 M1 k1 ev1 => ?_
    obtain ⟨m1, m2, rfl⟩ := he
    refine ⟨H, Ms, M1, _, k1, ?_⟩
    rw [(M.othE_ev ht hf).1]
    intro v2 H2 s2 rv2
    have rv2 : Dt H2 _ v2 (.int (teN g.1 : Int)) := rv2
    cases rv2
    refine ⟨H, Ms, M1, _, k1.up s2, ?_⟩
    rw [(M.othE_ev ht hf).2]
    intro v3 H3 s3 rv3
    obtain ⟨a, rfl, ha, hma, _, ob⟩ := rv3
    cases ob with
    | @lst xs _ la hx =>
    refine ⟨sz _ (show 2 ≤ 16777216 by decide), fun z hz => ?_⟩
    have s4 : Same H3 (upd H3 z (.tup [.int (teN g.1 : Int), .ref a])) := same_new hz
    have lz : (upd H3 z (.tup [.int (teN g.1 : Int), .ref a])) z = some (.tup [.int (teN g.1 : Int), .ref a]) := upd_same
    generalize upd H3 z (.tup [.int (teN g.1 : Int), .ref a]) = H4 at *
    refine q (.ref z) H4 (((k1.same.trans s2).trans s3).trans s4) ⟨z, a, xs, rfl, lz, s4 _ _ la, dts_imms _ _ (imms_nd _) (sm_dts s4 hx), ?_⟩
    exact (k1.same.trans s2).free ha
  · cases hc
end
section
variable {P : Program} {w : World} {K : PySem.W.Frag} {mg : Str → Option Value} {base : Heap}
theorem un_fn {qual : Str} {st : Stmt} {fa : Addr} {fd : FuncData} {N ps : List Str} {k : Nat} (F : Fun K "number_under" qual st fa fd) (S : FnScope N ps (defScope st)) (hps : ps.length = 5) (hN : N.length = 10) (hc : okUn N (defScope st) (defBody st) = true) (blt : Blt mg)
    (hm : mg "number_under" = some (.ref fa)) (hb : Binds K fd ps []) {fn : Addr} {fdn : FuncData} {psn : List Str} (Fn : FnOk P w K mg base (L2.CX P w) k fn fdn psn spNode) (mn : mg "node_of" = some (.ref fn)) (kn : PySem.W.keepIn K (.ref fn) = true) (bn : Binds K fdn psn []) :
    ∀ n, FnOk P w K mg base (L2.CX P w) (k + 3 * (n + 1)) fa fd ps (spUn n)
  | 0 => F.okX S (fun vs H Q E h => h.1.trans hps.symm) fun cdv A outer s H vs Q E hr h => absurd rfl h.2.1
  | n + 1 => by
    have Fs := un_fn F S hps hN hc blt hm hb Fn mn kn bn n
    rw [show k + 3 * (n + 1 + 1) = k + 3 * (n + 1) + 3 by omega]
    refine F.okX S (fun vs H Q E h => h.1.trans hps.symm) fun cdv A outer s H vs Q E hr h => ?_
    obtain ⟨hl, hne, t, a, b, c, ns, S', v2, v4, one, over, x, p, d, tp, rfl, B, htp, q⟩ := h
    refine ⟨_, un_body (oks_of (Γ := fun _ => none) S hr blt fun f n g e => nomatch e) n Fs hm F.kp hb (Fn.mono (by omega)) mn kn bn (defBody st) hc, t, a, b, c, ns, S', v2, v4, one, over, x, p, d, tp, ?_, B, htp, q⟩
    unfold L2.start
    rw [hN]
    rfl
theorem gun_fn {x qual : Str} {st : Stmt} {fa : Addr} {fd : FuncData} {N ps : List Str} {k : Nat} (F : Fun K x qual st fa fd) (S : FnScope N ps (defScope st)) (hps : ps.length = 2) (hN : N.length = 4) (hc : okGUn N (defScope st) (defBody st) = true) (blt : Blt mg)
    {fs : Addr} {fds : FuncData} {pss : List Str} (Fs : FnOk P w K mg base (L2.CX P w) k fs fds pss (spUn 9)) (ms : mg "number_under" = some (.ref fs)) (ks : PySem.W.keepIn K (.ref fs) = true) (bs : Binds K fds pss []) :
    FnOk P w K mg base (L2.CX P w) (k + 3) fa fd ps (spGr 2 underG) := by
  refine F.okX S (fun vs H Q E h => h.1.trans hps.symm) fun cdv A outer s H vs Q E hr h => ?_
  obtain ⟨hl, M, ds, r, hM, hD, e, h⟩ := h
  by_cases hex : ∃ (g : Nat × List Nd) (over : Tx), UnIn ds g over
  · obtain ⟨g, over, U⟩ := hex
    have e0 := U.1
    subst e0
    rw [underG_eq U] at e
    simp only [R.ok.injEq, Rv.fr.injEq, true_and] at e
    have e := grD_inj e
    subst e
    obtain ⟨v0, v1, rfl⟩ : ∃ v0 v1, vs = [v0, v1] := by
      match vs, hl with
      | [a, b], _ => exact ⟨a, b, rfl⟩
    cases hD with
    | cons t1 r1 =>
    cases r1 with
    | cons t2 r2 =>
    refine ⟨_, gun_body (oks_of (Γ := fun _ => none) S hr blt fun f n g e => nomatch e) Fs ms ks bs (defBody st) hc, v0, v1, M, g, over, ?_, hM, t1, dt_tx t2, U, fun u H' s rv => h u H' s rv⟩
    unfold L2.start
    rw [hN]
    rfl
  · unfold underG at e
    rw [dif_neg hex] at e
    cases e
theorem oth_fn {x qual : Str} {st : Stmt} {fa : Addr} {fd : FuncData} {N ps : List Str} {k : Nat} {Γ : FT} (F : Fun K x qual st fa fd) (S : FnScope N ps (defScope st)) (hps : ps.length = 1) (hN : N.length = 6) (hc : okOth N (defScope st) (defBody st) = true) (blt : Blt mg) (G : FnsOk P w K mg base k Γ) (ht : M.TurnAt Γ) :
    FnOk P w K mg base (L2.CX P w) (k + 3) fa fd ps (spGr 1 otherG) := by
  refine F.okX S (fun vs H Q E h => h.1.trans hps.symm) fun cdv A outer s H vs Q E hr h => ?_
  obtain ⟨hl, M, ds, r, hM, hD, e, h⟩ := h
  by_cases hex : ∃ g, OthIn ds g
  · obtain ⟨g, rfl, hf⟩ := hex
    rw [otherG_eq hf] at e
    simp only [R.ok.injEq, Rv.fr.injEq, true_and] at e
    have e := grD_inj e
    subst e
    refine ⟨_, oth_body (oks_of S hr blt G) ht (defBody st) hc, M, g, ?_, hf, fun u H' s rv => h u H' s rv⟩
    have := env_start (N := N) hM hD (by rw [hl, hN]; decide)
    rw [hN] at this
    exact this
  · unfold otherG at e
    rw [dif_neg hex] at e
    cases e
theorem fns_gr {x : Str} {n : Nat} {g : List D → R Rv} {k kg : Nat} {Γ : FT} (G : FnsOk P w K mg base k Γ) (hk : k ≤ kg) (hg : ∀ ds, g ds = .bad ∨ ∃ r, g ds = .ok (.fr false (grD r))) (A : ∃ fa fd ps, FnOk P w K mg base (L2.CX P w) kg fa fd ps (spGr n g) ∧ mg x = some (.ref fa) ∧ PySem.W.keepIn K (.ref fa) = true ∧ Binds K fd ps [] ∧ ps.length = n) :
    GrAt P w K mg base kg x n g ∧ FnsOk P w K mg base kg (put Γ x n g) := by
  obtain ⟨fa, fd, ps, F, hm, hk2, hb, hp⟩ := A
  refine ⟨⟨fa, fd, ps, F, hm, hk2, hb⟩, fun f n' g' e => ?_⟩
  unfold put at e
  split at e
  · rename_i e1
    subst e1
    cases e
    exact ⟨fa, fd, ps, gr_weak hp.symm hg F, hm, hk2, hb⟩
  · obtain ⟨fa, fd, ps, F3, q⟩ := G f n' g' e
    exact ⟨fa, fd, ps, F3.mono hk, q⟩
theorem fns_under {stn stu st : Stmt} {Nn Nu N psn psu ps : List Str} {k : Nat} {Γ : FT} (G : FnsOk P w K mg base k Γ) (blt : Blt mg)
    (hn : Has K mg "node_of" stn psn) (Sn : FnScope Nn psn (defScope stn)) (n1 : psn.length = 4) (n2 : Nn.length = 7) (n3 : okNode Nn (defScope stn) (defBody stn) = true)
    (hu : Has K mg "number_under" stu psu) (Su : FnScope Nu psu (defScope stu)) (u1 : psu.length = 5) (u2 : Nu.length = 10) (u3 : okUn Nu (defScope stu) (defBody stu) = true)
    (h : Has K mg "graph_under" st ps) (S : FnScope N ps (defScope st)) (g1 : ps.length = 2) (g2 : N.length = 4) (g3 : okGUn N (defScope st) (defBody st) = true) :
    GrAt P w K mg base (k + 36) "graph_under" 2 underG ∧ FnsOk P w K mg base (k + 36) (put Γ "graph_under" 2 underG) := by
  obtain ⟨fn, fdn, Fn, mn, bn⟩ := hn
  obtain ⟨fu, fdu, Fu, mu, bu⟩ := hu
  obtain ⟨fa, fd, F, hm, hb⟩ := h
  have Fn2 : FnOk P w K mg base (L2.CX P w) (k + 3) fn fdn psn spNode := node_fn Fn Sn n1 n2 n3 blt
  have Fu2 := un_fn (k := k + 3) Fu Su u1 u2 u3 blt mu bu Fn2 mn Fn.kp bn 9
  exact fns_gr G (by omega) underG_or ⟨fa, fd, ps, gun_fn F S g1 g2 g3 blt Fu2 mu Fu.kp bu, hm, F.kp, hb, g1⟩
theorem fns_other {st : Stmt} {N ps : List Str} {k : Nat} {Γ : FT} (G : FnsOk P w K mg base k Γ) (ht : M.TurnAt Γ) (blt : Blt mg)
    (h : Has K mg "graph_other" st ps) (S : FnScope N ps (defScope st)) (g1 : ps.length = 1) (g2 : N.length = 6) (g3 : okOth N (defScope st) (defBody st) = true) :
    GrAt P w K mg base (k + 3) "graph_other" 1 otherG ∧ FnsOk P w K mg base (k + 3) (put Γ "graph_other" 1 otherG) := by
  obtain ⟨fa, fd, F, hm, hb⟩ := h
  exact fns_gr G (by omega) otherG_or ⟨fa, fd, ps, oth_fn F S g1 g2 g3 blt G ht, hm, F.kp, hb, g1⟩
end
end En

set_option Elab.async false
set_option linter.all false
set_option maxRecDepth 100000
set_option maxHeartbeats 4000000
namespace En
open PySem L2

/-! ### under and other: what the graphs stand for -/
theorem grOf_fun {w : Nat} {ps : List Nat} {D : List Tx} {f : Tx → Prop} (hw : w ≤ 900) (pn : ps.Nodup) (pw : ∀ p ∈ ps, p < w) (hp : ps.length ≤ 8) (hD : ∀ c ∈ D, Ltr ps.length c) (h : ∀ l, Ltr w l → (f l ↔ atS ps l ∈ D)) : GrOf w ps D (canon w 0 f []) := by
  have e : canon w 0 f [] = canon w 0 (setR (heapT w ps D) 0) [] := canon_ext fun l a b => (h l ⟨a, b⟩).trans (heapT_in pn pw hD ⟨a, b⟩).symm
  rw [e]
  exact grOf_heap hw pn pw hp hD
theorem wr_bits {m : Nat} {c o : Tx} (hc : Ltr m c) (ho : Row m o) : Ltr m (wr c o) := by
  refine ⟨by rw [wr_len, hc.1, ho.1, Nat.min_self], fun x hx => ?_⟩
  obtain ⟨i, hi, e⟩ := List.getElem_of_mem hx
  rw [wr_len] at hi
  have h1 : i < c.length := by omega
  have h2 : i < o.length := by omega
  have g := wr_get (r := c) (o := o) h1 h2
  rw [List.getElem?_eq_getElem (by rw [wr_len]; omega), e] at g
  simp only [Option.some.injEq] at g
  rw [g]
  split
  · exact hc.2 _ (List.getElem_mem h1)
  · rename_i n
    rcases ho.2 _ (List.getElem_mem h2) with z | z | z
    · exact .inl z
    · exact .inr z
    · exact absurd z n
def belowL (m : Nat) (G : List Tx) (ov : Tx) : List Tx := (choicesL m).filter fun c => decide (wr c ov ∈ G)
def aboutL (m : Nat) (G : List Tx) : List Tx := (choicesL m).filter fun c => decide (¬ c ∈ G)
theorem below_ltr {m : Nat} {G : List Tx} {ov : Tx} : ∀ c ∈ belowL m G ov, Ltr m c := fun c h => choices_ltr (List.mem_filter.mp h).1
theorem about_ltr {m : Nat} {G : List Tx} : ∀ c ∈ aboutL m G, Ltr m c := fun c h => choices_ltr (List.mem_filter.mp h).1
theorem grOf_under {w : Nat} {ps : List Nat} {G : List Tx} {g : Nat × List Nd} {ov : Tx} (hw : w ≤ 900) (pn : ps.Nodup) (pw : ∀ p ∈ ps, p < w) (hp : ps.length ≤ 8) (a : GrOf w ps G g) (ho : Row ps.length ov) : GrOf w ps (belowL ps.length G ov) (underN g (spreadL ov ps (List.replicate w 45))) := by
  have hl : (spreadL ov ps (List.replicate w 45)).length = w := by rw [spread_len, List.length_replicate]
  unfold underN unC
  rw [hl, Nat.sub_zero]
  refine grOf_fun hw pn pw hp below_ltr fun l hll => ?_
  have e : wr l (spreadL ov ps (List.replicate w 45)) = spreadL (wr (atS ps l) ov) ps l := by
    have := wr_spread (c := atS ps l) (o := ov) (b := l) pn pw (atS_len _ _) ho.1 hll.1
    rwa [spread_self pn pw hll.1] at this
  have hb := wr_bits (atS_ltr pw hll) ho
  have hsl := spread_ltr pn pw hb hll
  have ev := a.ev _ hsl
  rw [atS_spread (s := wr (atS ps l) ov) pn pw hb.1 hll.1] at ev
  unfold hU belowL
  rw [List.replicate_zero, List.nil_append, e, List.mem_filter]
  simp only [decide_eq_true_eq]
  constructor
  · intro h
    exact ⟨choices_all (atS_ltr pw hll), of_decide_eq_true (h.det ev).symm⟩
  · rintro ⟨_, h⟩
    rwa [decide_eq_true h] at ev
theorem grOf_other {w : Nat} {ps : List Nat} {G : List Tx} {g : Nat × List Nd} (hw : w ≤ 900) (pn : ps.Nodup) (pw : ∀ p ∈ ps, p < w) (hp : ps.length ≤ 8) (a : GrOf w ps G g) : GrOf w ps (aboutL ps.length G) (otherN g) := by
  have e : otherN g = canon w 0 (fun l => ¬ atS ps l ∈ G) [] := by
    have := canon_turn w 0 (fun l => atS ps l ∈ G) []
    rw [List.map_nil, ← a.eq] at this
    rw [this]
    rfl
  rw [e]
  refine grOf_fun hw pn pw hp about_ltr fun l hl => ?_
  unfold aboutL
  rw [List.mem_filter]
  simp only [decide_eq_true_eq]
  exact ⟨fun h => ⟨choices_all (atS_ltr pw hl), h⟩, fun h => h.2⟩
theorem other_other (g : Nat × List Nd) : otherN (otherN g) = g := by
  obtain ⟨r, ns⟩ := g
  simp only [otherN, te_te, List.map_map]
  congr 1
  rw [show (turnN ∘ turnN) = id from funext turn_turn, List.map_id]
theorem unIn_of {w : Nat} {ps : List Nat} {G : List Tx} {g : Nat × List Nd} {over : Tx} (hp : ps.length ≤ 8) (a : GrOf w ps G g) (ho : Row w over) : UnIn [grD g, tx over] g over := by
  have hl := ho.1
  refine ⟨rfl, by rw [hl]; exact ho, by rw [hl]; exact a.fit.w9, ps, 8, by rw [hl]; exact a.fit.dep, hp⟩
namespace M
def lawSame : MF := ⟨9, (.cons (.unp [3, 4, 5] (.v 2)) (.cons (.set 6 (.lc (.n 8) (.e (.v 1)) .no (.call "_law_spread" (.cons (.v 8) (.cons (.v 4) (.cons (.bin .Mult (.ks "-") (.v 3)) .nil))))) false) (.cons (.ife (.bop false (.cons (.not_ (.isi (.v 0) "tuple")) (.cons (.cmp .NotEq (.v 0) (.call "graph_of" (.cons (.v 6) .nil))) (.cons (.not_ (.call "_law_wholes" (.cons (.v 0) .nil))) .nil)))) (.cons (.ret (.kb false)) .nil) .nil) (.cons (.for_ (.n 7) (.e (.call "_law_choices" (.cons (.bi "len" (.cons (.v 4) .nil)) .nil))) (.cons (.ife (.cmp .NotEq (.call "_law_end" (.cons (.v 0) (.cons (.call "_law_spread" (.cons (.v 7) (.cons (.v 4) (.cons (.v 5) .nil)))) .nil))) (.bi "int" (.cons (.cmp .In (.v 7) (.v 1)) .nil))) (.cons (.ret (.kb false)) .nil) .nil) .nil)) (.cons (.ret (.kb true)) .nil)))))⟩
def whereD (w : Nat) (ps : List Nat) (b : Tx) : D := .tuple [.int (w : Int), .list (ps.map fun (p : Nat) => .int (p : Int)), tx b]
theorem lawSame_ok {Γ : FT} {n : Nat} {X : Str → Prop} {K : Rv → Prop} (hc : ChoicesAt Γ) (hs : SpreadAt Γ) (hg : GraphAt Γ) (hw : WholesAt Γ) (he : LawEndAt Γ) {w : Nat} {ps : List Nat} {D : List Tx} {g : Nat × List Nd} {b : Tx} (w2 : w ≤ 48) (pn : ps.Nodup) (pw : ∀ p ∈ ps, p < w) (p8 : ps.length ≤ 8) (hb : Ltr w b) (df : D.length ≤ 256) (dl : ∀ c ∈ D, Ltr ps.length c) (gr : GrOf w ps D g)
    (q : K (.fr false (.bool true))) : RS X (runF Γ n lawSame [grD g, .list (D.map tx), whereD w ps b]) K := by
  obtain ⟨Γ1, n1, e1⟩ := hc
  obtain ⟨Γ2, n2, e2⟩ := hs
  obtain ⟨Γ3, n3, e3⟩ := hw
  obtain ⟨Γ4, n4, e4⟩ := he
  have cf : (choicesL ps.length).length ≤ 256 := by rw [choices_len]; exact Nat.pow_le_pow_right (by decide) p8
  have g0 : graphG [.list ((heapT w ps D).map tx)] = .ok (.fr false (grD g)) := by
    have := graphG_eq (rows := heapT w ps D) (w := w) (tp := ps) ⟨by omega, by unfold heapT; rw [List.length_map]; omega, heapT_row pn pw dl, heapT_tell, p8⟩
    rwa [grOf_same pw (grOf_heap (by omega) pn pw p8 dl) gr fun _ _ => Iff.rfl] at this
  refine rs_run ?_
  simp [-fs_if, -rs_bopO, -rs_bopA, lawSame, startE, whereD]
  refine rs_lc (fun i m L => m = false ∧ L = ((D.map fun s => spreadL s ps (List.replicate w 45)).take i).map tx) ⟨rfl, rfl⟩ (fun i d m L hd' h => ?_) (fun m L h => ?_)
  · obtain ⟨rfl, rfl⟩ := h
    obtain ⟨hi, rfl⟩ := map_at hd'
    simp [lcT, e_call e2, dashes (n := w) (by omega)]
    refine spread_ok (Γ := Γ2) D[i] ps _ (by rw [List.length_replicate]; omega) (by rw [List.length_replicate]; exact pw) ?_
    simp
    rw [take_get (l := D.map (tx ∘ fun s => spreadL s ps (List.replicate w 45))) (a := tx (spreadL D[i] ps (List.replicate w 45))) (by rw [List.getElem?_map, List.getElem?_eq_getElem hi]; rfl)]
  obtain ⟨rfl, rfl⟩ := h
  rw [List.length_map, List.take_of_length_le (by simp)]
  refine ⟨sz _ (by omega), ?_⟩
  have g0 : graphG [.list ((D.map fun s => spreadL s ps (List.replicate w 45)).map tx)] = .ok (.fr false (grD g)) := g0
  generalize (D.map fun s => spreadL s ps (List.replicate w 45)) = rows at *
  have eg : eqO (grD g) (grD g) = some true := (eq_gr g g).trans (congrArg some (decide_eq_true rfl))
  simp [-fs_if, e_call hg, g0, eg, e_call e3]
  refine wholes_ok (Γ := Γ3) g gr.fit.few ?_
  simp [-fs_if, e_call e1]
  refine choices_ok (Γ := Γ1) ps.length p8 ?_
  simp [-fs_if]
  obtain ⟨I, hI⟩ : ∃ I : Nat → List Sl → Prop, ∀ i e, I i e = ∃ (s7 s8 : Sl), e = [.fr true (grD g), .fr true (.list (D.map tx)), .fr true (.tuple [.int (w : Int), .list (ps.map fun (p : Nat) => .int (p : Int)), tx b]), .fr true (.int (w : Int)), .fr true (.list (ps.map fun (p : Nat) => .int (p : Int))), .fr true (tx b), .fr false (.list (rows.map tx)), s7, s8] := ⟨_, fun _ _ => rfl⟩
  refine fs_for I ?_ (fun i d e hd' h => ?_) (fun e h => ?_)
  · rw [hI]
    exact ⟨_, _, rfl⟩
  · rw [hI] at h
    obtain ⟨s7, s8, rfl⟩ := h
    obtain ⟨hi, rfl⟩ := map_at hd'
    have hcl := choices_ltr (List.getElem_mem hi)
    generalize (choicesL ps.length)[i] = c at *
    have hl := spread_ltr pn pw hcl hb
    have ev := gr.ev _ hl
    rw [atS_spread (s := c) pn pw hcl.1 hb.1] at ev
    simp [-fs_if, e_call e4, e_call e2]
    refine spread_ok (Γ := Γ2) c ps _ (by rw [hb.1]; omega) (by rw [hb.1]; exact pw) ?_
    generalize spreadL c ps b = l at *
    simp [-fs_if]
    refine lawEnd_ok (Γ := Γ4) (by omega) hl gr.fit.dep ev fun m => ?_
    simp [-fs_if, in_txs]
    rw [hI]
    exact ⟨_, _, rfl⟩
  · rw [hI] at h
    obtain ⟨s7, s8, rfl⟩ := h
    exact q
end M
end En

set_option Elab.async false
set_option linter.all false
set_option maxRecDepth 100000
set_option maxHeartbeats 8000000
namespace En
open PySem PySem.Spec PyProof.Rows L2

/-! ### law_k14's own def: its parts -/
namespace K14H
def blkA : MSs := (.cons (.set 1 (.call "_law_width" (.cons (.call "_law_cell_at" (.cons (.v 0) (.cons (.ki 0) .nil))) .nil)) false) (.cons (.set 2 (.call "_law_places" (.cons (.call "_law_cell_at" (.cons (.v 0) (.cons (.ki 1) .nil))) (.cons (.v 1) .nil))) false) (.cons (.set 3 (.tup (.cons (.v 1) (.cons (.v 2) (.cons (.call "_law_base" (.cons (.call "_law_cell_at" (.cons (.v 0) (.cons (.ki 2) .nil))) (.cons (.v 1) .nil))) .nil)))) false) (.cons (.set 4 (.call "_law_shorts" (.cons (.sl (.v 0) (.so (.ki 4)) (.so (.ki 14))) (.cons (.bi "len" (.cons (.v 2) .nil)) .nil))) false) (.cons (.set 5 (.ix (.call "_law_shorts" (.cons (.lst (.cons (.call "_law_cell_at" (.cons (.v 0) (.cons (.ki 3) .nil))) .nil)) (.cons (.bi "len" (.cons (.v 2) .nil)) .nil))) (.ki 0)) false) (.cons (.ife (.cmp .Eq (.bin .Mod (.call "_law_cell_at" (.cons (.v 0) (.cons (.ki 2) .nil))) (.ki 3)) (.ki 1)) (.cons (.set 5 (.bin .Mult (.ks "-") (.bi "len" (.cons (.v 2) .nil))) false) .nil) .nil) (.cons (.set 6 (.call "graph_of" (.cons (.lc (.n 15) (.e (.v 4)) .no (.call "_law_spread" (.cons (.v 15) (.cons (.v 2) (.cons (.bin .Mult (.ks "-") (.v 1)) .nil))))) .nil)) false) (.cons (.set 7 (.tup (.cons (.ix (.v 6) (.ki 0)) (.cons (.bi "list" (.cons (.ix (.v 6) (.ki 1)) .nil)) .nil))) false) (.cons (.set 8 (.call "_law_good" (.cons (.v 4) (.cons (.bi "len" (.cons (.v 2) .nil)) .nil))) false) (.cons (.set 9 (.call "_law_choices" (.cons (.bi "len" (.cons (.v 2) .nil)) .nil)) false) (.cons (.set 10 (.lc (.n 16) (.e (.v 9)) (.so (.cmp .In (.call "_law_written" (.cons (.v 16) (.cons (.v 5) .nil))) (.v 8))) (.v 16)) false) .nil)))))))))))
def blk12 : MSs := (.cons (.ife (.not_ (.call "_law_same" (.cons (.v 11) (.cons (.v 10) (.cons (.v 3) .nil))))) (.cons (.ret (.kb false)) .nil) .nil) .nil)
def blk14 : MSs := (.cons (.ife (.not_ (.call "_law_same" (.cons (.v 12) (.cons (.lc (.n 16) (.e (.v 9)) (.so (.cmp .NotIn (.v 16) (.v 8))) (.v 16)) (.cons (.v 3) .nil))))) (.cons (.ret (.kb false)) .nil) .nil) .nil)
def blk16 : MSs := (.cons (.ife (.bop false (.cons (.cmp .NotEq (.v 13) (.v 6)) (.cons (.cmp .NotEq (.v 6) (.v 7)) .nil))) (.cons (.ret (.kb false)) .nil) .nil) .nil)
def ovE : ME := .call "_law_spread" (.cons (.v 5) (.cons (.v 2) (.cons (.bin .Mult (.ks "-") (.v 1)) .nil)))
def dsE : ME := .bin .Mult (.ks "-") (.v 1)
def eqE : ME := .cmp .Eq (.v 6) (.v 7)
def okLaw (N : List Str) (sc : Scope) : List Stmt → Bool
  | [s0, s1, s2, s3, s4, s5, s6, s7, s8, s9, s10, .Assign [.Name fi p1] (.Call (.Name f1 _) [.Name g1 _, a1] [] _) _, s12, .Assign [.Name ot p2] (.Call (.Name f2 _) [.Name g2 _] [] _) _, s14, .Assign [.Name ag p3] (.Call (.Name f3 _) [.Name o3 _] [] _) _, s16,
      .For tg (.List [.Name l1 _, .Name l2 _, .Name l3 _, .Call (.Name f4 _) [.Name g4 _, a4] [] _] _) [s17] [] _, .Return (some c) _] =>
    okSs (exL []) N sc blkA [s0, s1, s2, s3, s4, s5, s6, s7, s8, s9, s10] && tgOk N sc 11 (.Name fi p1) && decide (f1 = "graph_under") && glOk sc f1 && slotOk N sc 6 g1 && okE N sc ovE a1 && okSs (exL []) N sc blk12 [s12] &&
      (tgOk N sc 12 (.Name ot p2) && decide (f2 = "graph_other") && glOk sc f2 && slotOk N sc 6 g2 && okSs (exL []) N sc blk14 [s14]) &&
      (tgOk N sc 13 (.Name ag p3) && decide (f3 = "graph_other") && glOk sc f3 && slotOk N sc 12 o3 && okSs (exL []) N sc blk16 [s16]) &&
      (tgOk N sc 14 tg && slotOk N sc 11 l1 && slotOk N sc 13 l2 && slotOk N sc 12 l3 && decide (f4 = "graph_under") && glOk sc f4 && slotOk N sc 6 g4 && okE N sc dsE a4 && okAp 14 N sc s17 && okE N sc eqE c)
  | _ => false
end K14H
end En

set_option Elab.async false
set_option linter.all false
set_option maxRecDepth 100000
set_option maxHeartbeats 4000000
namespace K14
open PySem PySem.Spec PyProof.Rows L2 En
def topS (i : Nat) : Stmt := PySem.Challenge.pw_throng_k14_under_and_other.main.body.getD i (.Pass ⟨0, 0, 0, 0⟩)
-- 0 _law_width ['cell']
abbrev st0 : Stmt := topS 13
def nm0 : List Str := ["cell"]
def mf0 : MF := M.width
theorem fs0 : FnScope nm0 ["cell"] (defScope st0) := ⟨rfl, rfl, rfl, by decide +kernel, rfl, by decide +kernel, by decide +kernel⟩
theorem ok0 : (decide (mf0.slots = nm0.length) && decide ((["cell"] : List Str).length ≤ nm0.length) && okSs (exL []) nm0 (defScope st0) mf0.body (defBody st0)) = true := by decide +kernel
-- 1 _law_cell_at ['script', 'k']
abbrev st1 : Stmt := topS 11
def nm1 : List Str := ["script", "k"]
def mf1 : MF := M.cell
theorem fs1 : FnScope nm1 ["script", "k"] (defScope st1) := ⟨rfl, rfl, rfl, by decide +kernel, rfl, by decide +kernel, by decide +kernel⟩
theorem ok1 : (decide (mf1.slots = nm1.length) && decide ((["script", "k"] : List Str).length ≤ nm1.length) && okSs (exL []) nm1 (defScope st1) mf1.body (defBody st1)) = true := by decide +kernel
-- 2 _law_stream ['cell', 'many', 'found', 'number', 'k']
abbrev st2 : Stmt := topS 12
def nm2 : List Str := ["cell", "many", "found", "number", "k"]
def mf2 : MF := M.stream
theorem fs2 : FnScope nm2 ["cell", "many"] (defScope st2) := ⟨rfl, rfl, rfl, by decide +kernel, rfl, by decide +kernel, by decide +kernel⟩
theorem ok2 : (decide (mf2.slots = nm2.length) && decide ((["cell", "many"] : List Str).length ≤ nm2.length) && okSs (exL []) nm2 (defScope st2) mf2.body (defBody st2)) = true := by decide +kernel
-- 3 _law_places ['cell', 'width', 'found', 'many', 'number']
abbrev st3 : Stmt := topS 14
def nm3 : List Str := ["cell", "width", "found", "many", "number"]
def mf3 : MF := M.places
theorem fs3 : FnScope nm3 ["cell", "width"] (defScope st3) := ⟨rfl, rfl, rfl, by decide +kernel, rfl, by decide +kernel, by decide +kernel⟩
theorem ok3 : (decide (mf3.slots = nm3.length) && decide ((["cell", "width"] : List Str).length ≤ nm3.length) && okSs (exL []) nm3 (defScope st3) mf3.body (defBody st3)) = true := by decide +kernel
-- 4 _law_base ['cell', 'width', 'number']
abbrev st4 : Stmt := topS 20
def nm4 : List Str := ["cell", "width", "number"]
def mf4 : MF := M.base
theorem fs4 : FnScope nm4 ["cell", "width"] (defScope st4) := ⟨rfl, rfl, rfl, by decide +kernel, rfl, by decide +kernel, by decide +kernel⟩
theorem ok4 : (decide (mf4.slots = nm4.length) && decide ((["cell", "width"] : List Str).length ≤ nm4.length) && okSs (exL []) nm4 (defScope st4) mf4.body (defBody st4)) = true := by decide +kernel
-- 5 _law_shorts ['cells', 'many', 'found', 'cell', 'loose', 'signs', 'number']
abbrev st5 : Stmt := topS 15
def nm5 : List Str := ["cells", "many", "found", "cell", "loose", "signs", "number"]
def mf5 : MF := M.shorts
theorem fs5 : FnScope nm5 ["cells", "many"] (defScope st5) := ⟨rfl, rfl, rfl, by decide +kernel, rfl, by decide +kernel, by decide +kernel⟩
theorem ok5 : (decide (mf5.slots = nm5.length) && decide ((["cells", "many"] : List Str).length ≤ nm5.length) && okSs (exL []) nm5 (defScope st5) mf5.body (defBody st5)) = true := by decide +kernel
-- 6 next_told ['row', 'place']
abbrev st6 : Stmt := topS 2
def nm6 : List Str := ["row", "place"]
def mf6 : MF := M.nextTold
theorem fs6 : FnScope nm6 ["row", "place"] (defScope st6) := ⟨rfl, rfl, rfl, by decide +kernel, rfl, by decide +kernel, by decide +kernel⟩
theorem ok6 : (decide (mf6.slots = nm6.length) && decide ((["row", "place"] : List Str).length ≤ nm6.length) && okSs (exL []) nm6 (defScope st6) mf6.body (defBody st6)) = true := by decide +kernel
-- 7 node_of ['made', 'place', 'no', 'yes', 'nodes', 'numbers', 'node']
abbrev st7 : Stmt := topS 1
def nm7 : List Str := ["made", "place", "no", "yes", "nodes", "numbers", "node"]
theorem fs7 : FnScope nm7 ["made", "place", "no", "yes"] (defScope st7) := ⟨rfl, rfl, rfl, by decide +kernel, rfl, by decide +kernel, by decide +kernel⟩
theorem ok7 : okNode nm7 (defScope st7) (defBody st7) = true := by decide +kernel
-- 8 number_of ['made', 'rows', 'place', 'here', 'row', 'no', 'yes']
abbrev st8 : Stmt := topS 3
def nm8 : List Str := ["made", "rows", "place", "here", "row", "no", "yes"]
theorem fs8 : FnScope nm8 ["made", "rows", "place"] (defScope st8) := ⟨rfl, rfl, rfl, by decide +kernel, rfl, by decide +kernel, by decide +kernel⟩
theorem ok8 : okNum nm8 (defScope st8) (defBody st8) = true := by decide +kernel
-- 9 graph_of ['heap', 'made', 'root']
abbrev st9 : Stmt := topS 4
def nm9 : List Str := ["heap", "made", "root"]
theorem fs9 : FnScope nm9 ["heap"] (defScope st9) := ⟨rfl, rfl, rfl, by decide +kernel, rfl, by decide +kernel, by decide +kernel⟩
theorem ok9 : okGraph nm9 (defScope st9) (defBody st9) = true := by decide +kernel
-- 10 _law_spread ['short', 'places', 'base', 'sign', 'place']
abbrev st10 : Stmt := topS 16
def nm10 : List Str := ["short", "places", "base", "sign", "place"]
def mf10 : MF := M.spread
theorem fs10 : FnScope nm10 ["short", "places", "base"] (defScope st10) := ⟨rfl, rfl, rfl, by decide +kernel, rfl, by decide +kernel, by decide +kernel⟩
theorem ok10 : (decide (mf10.slots = nm10.length) && decide ((["short", "places", "base"] : List Str).length ≤ nm10.length) && okSs (exL []) nm10 (defScope st10) mf10.body (defBody st10)) = true := by decide +kernel
-- 11 _law_choices ['many', 'found', 'k', 'one']
abbrev st11 : Stmt := topS 18
def nm11 : List Str := ["many", "found", "k", "one"]
def mf11 : MF := M.choices
theorem fs11 : FnScope nm11 ["many"] (defScope st11) := ⟨rfl, rfl, rfl, by decide +kernel, rfl, by decide +kernel, by decide +kernel⟩
theorem ok11 : (decide (mf11.slots = nm11.length) && decide ((["many"] : List Str).length ≤ nm11.length) && okSs (exL []) nm11 (defScope st11) mf11.body (defBody st11)) = true := by decide +kernel
-- 12 _law_fits ['short', 'choice', 'sign', 'own']
abbrev st12 : Stmt := topS 17
def nm12 : List Str := ["short", "choice", "sign", "own"]
def mf12 : MF := M.fits
theorem fs12 : FnScope nm12 ["short", "choice"] (defScope st12) := ⟨rfl, rfl, rfl, by decide +kernel, rfl, by decide +kernel, by decide +kernel⟩
theorem ok12 : (decide (mf12.slots = nm12.length) && decide ((["short", "choice"] : List Str).length ≤ nm12.length) && okSs (exL []) nm12 (defScope st12) mf12.body (defBody st12)) = true := by decide +kernel
-- 13 _law_good ['shorts', 'many', 'found', 'choice', 'short']
abbrev st13 : Stmt := topS 19
def nm13 : List Str := ["shorts", "many", "found", "choice", "short"]
def mf13 : MF := M.good
theorem fs13 : FnScope nm13 ["shorts", "many"] (defScope st13) := ⟨rfl, rfl, rfl, by decide +kernel, rfl, by decide +kernel, by decide +kernel⟩
theorem ok13 : (decide (mf13.slots = nm13.length) && decide ((["shorts", "many"] : List Str).length ≤ nm13.length) && okSs (exL []) nm13 (defScope st13) mf13.body (defBody st13)) = true := by decide +kernel
-- 14 _law_written ['choice', 'over', 'own', 'sign']
abbrev st14 : Stmt := topS 22
def nm14 : List Str := ["choice", "over", "own", "sign"]
def mf14 : MF := M.lawWritten
theorem fs14 : FnScope nm14 ["choice", "over"] (defScope st14) := ⟨rfl, rfl, rfl, by decide +kernel, rfl, by decide +kernel, by decide +kernel⟩
theorem ok14 : (decide (mf14.slots = nm14.length) && decide ((["choice", "over"] : List Str).length ≤ nm14.length) && okSs (exL []) nm14 (defScope st14) mf14.body (defBody st14)) = true := by decide +kernel
-- 15 number_under ['made', 'seen', 'nodes', 'number', 'over', 'place', 'no', 'yes', 'low', 'high']
abbrev st15 : Stmt := topS 8
def nm15 : List Str := ["made", "seen", "nodes", "number", "over", "place", "no", "yes", "low", "high"]
theorem fs15 : FnScope nm15 ["made", "seen", "nodes", "number", "over"] (defScope st15) := ⟨rfl, rfl, rfl, by decide +kernel, rfl, by decide +kernel, by decide +kernel⟩
theorem ok15 : okUn nm15 (defScope st15) (defBody st15) = true := by decide +kernel
-- 16 graph_under ['graph', 'over', 'made', 'root']
abbrev st16 : Stmt := topS 9
def nm16 : List Str := ["graph", "over", "made", "root"]
theorem fs16 : FnScope nm16 ["graph", "over"] (defScope st16) := ⟨rfl, rfl, rfl, by decide +kernel, rfl, by decide +kernel, by decide +kernel⟩
theorem ok16 : okGUn nm16 (defScope st16) (defBody st16) = true := by decide +kernel
-- 17 _law_wholes ['graph', 'node', 'part']
abbrev st17 : Stmt := topS 23
def nm17 : List Str := ["graph", "node", "part"]
def mf17 : MF := M.wholes
theorem fs17 : FnScope nm17 ["graph"] (defScope st17) := ⟨rfl, rfl, rfl, by decide +kernel, rfl, by decide +kernel, by decide +kernel⟩
theorem ok17 : (decide (mf17.slots = nm17.length) && decide ((["graph"] : List Str).length ≤ nm17.length) && okSs (exL []) nm17 (defScope st17) mf17.body (defBody st17)) = true := by decide +kernel
-- 18 _law_end ['graph', 'letter', 'number', 'k']
abbrev st18 : Stmt := topS 21
def nm18 : List Str := ["graph", "letter", "number", "k"]
def mf18 : MF := M.lawEnd
theorem fs18 : FnScope nm18 ["graph", "letter"] (defScope st18) := ⟨rfl, rfl, rfl, by decide +kernel, rfl, by decide +kernel, by decide +kernel⟩
theorem ok18 : (decide (mf18.slots = nm18.length) && decide ((["graph", "letter"] : List Str).length ≤ nm18.length) && okSs (exL []) nm18 (defScope st18) mf18.body (defBody st18)) = true := by decide +kernel
-- 19 _law_same ['found', 'due', 'where', 'width', 'places', 'base', 'rows', 'choice', 'one']
abbrev st19 : Stmt := topS 24
def nm19 : List Str := ["found", "due", "where", "width", "places", "base", "rows", "choice", "one"]
def mf19 : MF := M.lawSame
theorem fs19 : FnScope nm19 ["found", "due", "where"] (defScope st19) := ⟨rfl, rfl, rfl, by decide +kernel, rfl, by decide +kernel, by decide +kernel⟩
theorem ok19 : (decide (mf19.slots = nm19.length) && decide ((["found", "due", "where"] : List Str).length ≤ nm19.length) && okSs (exL []) nm19 (defScope st19) mf19.body (defBody st19)) = true := by decide +kernel
-- 20 turned_end ['number']
abbrev st20 : Stmt := topS 6
def nm20 : List Str := ["number"]
def mf20 : MF := M.turned
theorem fs20 : FnScope nm20 ["number"] (defScope st20) := ⟨rfl, rfl, rfl, by decide +kernel, rfl, by decide +kernel, by decide +kernel⟩
theorem ok20 : (decide (mf20.slots = nm20.length) && decide ((["number"] : List Str).length ≤ nm20.length) && okSs (exL []) nm20 (defScope st20) mf20.body (defBody st20)) = true := by decide +kernel
-- 21 graph_other ['graph', 'root', 'nodes', 'place', 'no', 'yes']
abbrev st21 : Stmt := topS 7
def nm21 : List Str := ["graph", "root", "nodes", "place", "no", "yes"]
theorem fs21 : FnScope nm21 ["graph"] (defScope st21) := ⟨rfl, rfl, rfl, by decide +kernel, rfl, by decide +kernel, by decide +kernel⟩
theorem ok21 : okOth nm21 (defScope st21) (defBody st21) = true := by decide +kernel
-- 22 law ['script', 'width', 'places', 'where', 'shorts', 'over', 'graph', 'kept', 'good', 'choices', 'below', 'first', 'other', 'again', 'told', 'short', 'choice']
abbrev st22 : Stmt := topS 25
def nm22 : List Str := ["script", "width", "places", "where", "shorts", "over", "graph", "kept", "good", "choices", "below", "first", "other", "again", "told", "short", "choice"]
theorem fs22 : FnScope nm22 ["script"] (defScope st22) := ⟨rfl, rfl, rfl, by decide +kernel, rfl, by decide +kernel, by decide +kernel⟩
theorem ok22 : K14H.okLaw nm22 (defScope st22) (defBody st22) = true := by decide +kernel
def ft0 : FT := fun _ => none
def fu0 : List D → Nat := fun ds => 0
def fn0 : List D → R Rv := fun ds => runF ft0 (fu0 ds) mf0 ds
def ft1 : FT := put ft0 "_law_width" 1 fn0
def fu1 : List D → Nat := fun ds => 0
def fn1 : List D → R Rv := fun ds => runF ft1 (fu1 ds) mf1 ds
def ft2 : FT := put ft1 "_law_cell_at" 2 fn1
def fu2 : List D → Nat := fun ds => 0
def fn2 : List D → R Rv := fun ds => runF ft2 (fu2 ds) mf2 ds
def ft3 : FT := put ft2 "_law_stream" 2 fn2
def fu3 : List D → Nat := fun ds => 0
def fn3 : List D → R Rv := fun ds => runF ft3 (fu3 ds) mf3 ds
def ft4 : FT := put ft3 "_law_places" 2 fn3
def fu4 : List D → Nat := fun ds => 0
def fn4 : List D → R Rv := fun ds => runF ft4 (fu4 ds) mf4 ds
def ft5 : FT := put ft4 "_law_base" 2 fn4
def fu5 : List D → Nat := fun ds => 0
def fn5 : List D → R Rv := fun ds => runF ft5 (fu5 ds) mf5 ds
def ft6 : FT := put ft5 "_law_shorts" 2 fn5
def fu6 : List D → Nat := fun ds => 100000
def fn6 : List D → R Rv := fun ds => runF ft6 (fu6 ds) mf6 ds
def ft7 : FT := put ft6 "next_told" 2 fn6
abbrev ft8 : FT := ft7
abbrev ft9 : FT := ft8
noncomputable def fn9 : List D → R Rv := graphG
noncomputable def ft10 : FT := put ft9 "graph_of" 1 fn9
def fu10 : List D → Nat := fun ds => 0
noncomputable def fn10 : List D → R Rv := fun ds => runF ft10 (fu10 ds) mf10 ds
noncomputable def ft11 : FT := put ft10 "_law_spread" 3 fn10
def fu11 : List D → Nat := fun ds => 0
noncomputable def fn11 : List D → R Rv := fun ds => runF ft11 (fu11 ds) mf11 ds
noncomputable def ft12 : FT := put ft11 "_law_choices" 1 fn11
def fu12 : List D → Nat := fun ds => 0
noncomputable def fn12 : List D → R Rv := fun ds => runF ft12 (fu12 ds) mf12 ds
noncomputable def ft13 : FT := put ft12 "_law_fits" 2 fn12
def fu13 : List D → Nat := fun ds => 0
noncomputable def fn13 : List D → R Rv := fun ds => runF ft13 (fu13 ds) mf13 ds
noncomputable def ft14 : FT := put ft13 "_law_good" 2 fn13
def fu14 : List D → Nat := fun ds => 0
noncomputable def fn14 : List D → R Rv := fun ds => runF ft14 (fu14 ds) mf14 ds
noncomputable def ft15 : FT := put ft14 "_law_written" 2 fn14
noncomputable abbrev ft16 : FT := ft15
noncomputable def fn16 : List D → R Rv := underG
noncomputable def ft17 : FT := put ft16 "graph_under" 2 fn16
def fu17 : List D → Nat := fun ds => 0
noncomputable def fn17 : List D → R Rv := fun ds => runF ft17 (fu17 ds) mf17 ds
noncomputable def ft18 : FT := put ft17 "_law_wholes" 1 fn17
def fu18 : List D → Nat := fun ds => 0
noncomputable def fn18 : List D → R Rv := fun ds => runF ft18 (fu18 ds) mf18 ds
noncomputable def ft19 : FT := put ft18 "_law_end" 2 fn18
def fu19 : List D → Nat := fun ds => 0
noncomputable def fn19 : List D → R Rv := fun ds => runF ft19 (fu19 ds) mf19 ds
noncomputable def ft20 : FT := put ft19 "_law_same" 3 fn19
def fu20 : List D → Nat := fun ds => 0
noncomputable def fn20 : List D → R Rv := fun ds => runF ft20 (fu20 ds) mf20 ds
noncomputable def ft21 : FT := put ft20 "turned_end" 1 fn20
noncomputable def fn21 : List D → R Rv := otherG
noncomputable def ft22 : FT := put ft21 "graph_other" 1 fn21
theorem at3_2 : ft3 "_law_stream" = some (2, fn2) := put_self
theorem at4_2 : ft4 "_law_stream" = some (2, fn2) := (put_ne (by decide)).trans (put_self)
theorem at5_2 : ft5 "_law_stream" = some (2, fn2) := (put_ne (by decide)).trans ((put_ne (by decide)).trans (put_self))
theorem at8_6 : ft8 "next_told" = some (2, fn6) := put_self
theorem at13_11 : ft13 "_law_choices" = some (1, fn11) := (put_ne (by decide)).trans (put_self)
theorem at13_12 : ft13 "_law_fits" = some (2, fn12) := put_self
theorem at19_10 : ft19 "_law_spread" = some (3, fn10) := (put_ne (by decide)).trans ((put_ne (by decide)).trans ((put_ne (by decide)).trans ((put_ne (by decide)).trans ((put_ne (by decide)).trans ((put_ne (by decide)).trans ((put_ne (by decide)).trans (put_self)))))))
theorem at19_17 : ft19 "_law_wholes" = some (1, fn17) := (put_ne (by decide)).trans (put_self)
theorem at19_9 : ft19 "graph_of" = some (1, fn9) := (put_ne (by decide)).trans ((put_ne (by decide)).trans ((put_ne (by decide)).trans ((put_ne (by decide)).trans ((put_ne (by decide)).trans ((put_ne (by decide)).trans ((put_ne (by decide)).trans ((put_ne (by decide)).trans (put_self))))))))
theorem at19_11 : ft19 "_law_choices" = some (1, fn11) := (put_ne (by decide)).trans ((put_ne (by decide)).trans ((put_ne (by decide)).trans ((put_ne (by decide)).trans ((put_ne (by decide)).trans ((put_ne (by decide)).trans (put_self))))))
theorem at19_18 : ft19 "_law_end" = some (2, fn18) := put_self
theorem at21_20 : ft21 "turned_end" = some (1, fn20) := put_self
theorem at22_0 : ft22 "_law_width" = some (1, fn0) := (put_ne (by decide)).trans ((put_ne (by decide)).trans ((put_ne (by decide)).trans ((put_ne (by decide)).trans ((put_ne (by decide)).trans ((put_ne (by decide)).trans ((put_ne (by decide)).trans ((put_ne (by decide)).trans ((put_ne (by decide)).trans ((put_ne (by decide)).trans ((put_ne (by decide)).trans ((put_ne (by decide)).trans ((put_ne (by decide)).trans ((put_ne (by decide)).trans ((put_ne (by decide)).trans ((put_ne (by decide)).trans ((put_ne (by decide)).trans ((put_ne (by decide)).trans (put_self))))))))))))))))))
theorem at22_1 : ft22 "_law_cell_at" = some (2, fn1) := (put_ne (by decide)).trans ((put_ne (by decide)).trans ((put_ne (by decide)).trans ((put_ne (by decide)).trans ((put_ne (by decide)).trans ((put_ne (by decide)).trans ((put_ne (by decide)).trans ((put_ne (by decide)).trans ((put_ne (by decide)).trans ((put_ne (by decide)).trans ((put_ne (by decide)).trans ((put_ne (by decide)).trans ((put_ne (by decide)).trans ((put_ne (by decide)).trans ((put_ne (by decide)).trans ((put_ne (by decide)).trans ((put_ne (by decide)).trans (put_self)))))))))))))))))
theorem at22_3 : ft22 "_law_places" = some (2, fn3) := (put_ne (by decide)).trans ((put_ne (by decide)).trans ((put_ne (by decide)).trans ((put_ne (by decide)).trans ((put_ne (by decide)).trans ((put_ne (by decide)).trans ((put_ne (by decide)).trans ((put_ne (by decide)).trans ((put_ne (by decide)).trans ((put_ne (by decide)).trans ((put_ne (by decide)).trans ((put_ne (by decide)).trans ((put_ne (by decide)).trans ((put_ne (by decide)).trans ((put_ne (by decide)).trans (put_self)))))))))))))))
theorem at22_4 : ft22 "_law_base" = some (2, fn4) := (put_ne (by decide)).trans ((put_ne (by decide)).trans ((put_ne (by decide)).trans ((put_ne (by decide)).trans ((put_ne (by decide)).trans ((put_ne (by decide)).trans ((put_ne (by decide)).trans ((put_ne (by decide)).trans ((put_ne (by decide)).trans ((put_ne (by decide)).trans ((put_ne (by decide)).trans ((put_ne (by decide)).trans ((put_ne (by decide)).trans ((put_ne (by decide)).trans (put_self))))))))))))))
theorem at22_5 : ft22 "_law_shorts" = some (2, fn5) := (put_ne (by decide)).trans ((put_ne (by decide)).trans ((put_ne (by decide)).trans ((put_ne (by decide)).trans ((put_ne (by decide)).trans ((put_ne (by decide)).trans ((put_ne (by decide)).trans ((put_ne (by decide)).trans ((put_ne (by decide)).trans ((put_ne (by decide)).trans ((put_ne (by decide)).trans ((put_ne (by decide)).trans ((put_ne (by decide)).trans (put_self)))))))))))))
theorem at22_9 : ft22 "graph_of" = some (1, fn9) := (put_ne (by decide)).trans ((put_ne (by decide)).trans ((put_ne (by decide)).trans ((put_ne (by decide)).trans ((put_ne (by decide)).trans ((put_ne (by decide)).trans ((put_ne (by decide)).trans ((put_ne (by decide)).trans ((put_ne (by decide)).trans ((put_ne (by decide)).trans ((put_ne (by decide)).trans (put_self)))))))))))
theorem at22_10 : ft22 "_law_spread" = some (3, fn10) := (put_ne (by decide)).trans ((put_ne (by decide)).trans ((put_ne (by decide)).trans ((put_ne (by decide)).trans ((put_ne (by decide)).trans ((put_ne (by decide)).trans ((put_ne (by decide)).trans ((put_ne (by decide)).trans ((put_ne (by decide)).trans ((put_ne (by decide)).trans (put_self))))))))))
theorem at22_13 : ft22 "_law_good" = some (2, fn13) := (put_ne (by decide)).trans ((put_ne (by decide)).trans ((put_ne (by decide)).trans ((put_ne (by decide)).trans ((put_ne (by decide)).trans ((put_ne (by decide)).trans ((put_ne (by decide)).trans (put_self)))))))
theorem at22_11 : ft22 "_law_choices" = some (1, fn11) := (put_ne (by decide)).trans ((put_ne (by decide)).trans ((put_ne (by decide)).trans ((put_ne (by decide)).trans ((put_ne (by decide)).trans ((put_ne (by decide)).trans ((put_ne (by decide)).trans ((put_ne (by decide)).trans ((put_ne (by decide)).trans (put_self)))))))))
theorem at22_14 : ft22 "_law_written" = some (2, fn14) := (put_ne (by decide)).trans ((put_ne (by decide)).trans ((put_ne (by decide)).trans ((put_ne (by decide)).trans ((put_ne (by decide)).trans ((put_ne (by decide)).trans (put_self))))))
theorem at22_19 : ft22 "_law_same" = some (3, fn19) := (put_ne (by decide)).trans ((put_ne (by decide)).trans (put_self))
end K14

set_option Elab.async false
set_option linter.all false
set_option maxRecDepth 100000
set_option maxHeartbeats 8000000
namespace K14
open PySem PySem.Spec PyProof.Rows L2 En
structure Pre (w : Nat) (ps : List Nat) (G : List Tx) (g : Nat × List Nd) (b ov : Tx) : Prop where
  w2 : w ≤ 48
  pn : ps.Nodup
  pw : ∀ p ∈ ps, p < w
  p8 : ps.length ≤ 8
  gr : GrOf w ps G g
  hb : Ltr w b
  ho : Row ps.length ov
def keptD (g : Nat × List Nd) : D := .tuple [.int (g.1 : Int), .list (g.2.map ndD)]
def psD (ps : List Nat) : D := .list (ps.map fun (p : Nat) => .int (p : Int))
theorem blkA_fs (ns : List Int) (hns : ns.length ≤ 63) {fuel : Nat} {N : List Sl → Prop}
    (hn : ∀ (w : Nat) (ps : List Nat) (G : List Tx) (g : Nat × List Nd) (b ov : Tx), Pre w ps G g b ov → ∀ (s0 s4 : Sl) (m1 m2 m3 m5 m6 m7 m8 m9 m10 : Bool), N [s0, .fr m1 (.int (w : Int)), .fr m2 (psD ps), .fr m3 (M.whereD w ps b), s4, .fr m5 (tx ov), .fr m6 (grD g), .fr m7 (keptD g), .fr m8 (.list (G.map tx)), .fr m9 (.list ((choicesL ps.length).map tx)), .fr m10 (.list ((belowL ps.length G ov).map tx)), .no, .no, .no, .no, .no, .no]) :
    FS (fun _ => False) (fun _ => False) (fun _ => False) (fun _ => False) (evSs ft22 fuel K14H.blkA [.fr true (.list (ns.map .int)), .no, .no, .no, .no, .no, .no, .no, .no, .no, .no, .no, .no, .no, .no, .no, .no]) N := by
  have cl : ∀ k : Int, 0 ≤ k → fn1 [.list (ns.map .int), .int k] = .ok (.fr false (.int (M.cellI ns k))) := fun k h => M.cell_eq ns k h
  simp [-fs_if, K14H.blkA, e_call at22_1, e_call at22_0, cl]
  refine M.width_ok (Γ := ft0) _ fun w w1 w2 => ?_
  simp [-fs_if, e_call at22_3, e_call at22_1, cl]
  refine M.places_ok (Γ := ft3) ⟨ft2, 0, at3_2⟩ _ w w1 w2 fun ps pn pw p1 p8 => ?_
  have pwl := nodup_lt pn pw
  simp [-fs_if, e_call at22_4, e_call at22_1, cl]
  refine M.base_ok (Γ := ft4) ⟨ft2, 0, at4_2⟩ _ w (by omega) fun b hb => ?_
  simp [-fs_if, sz 3 (by decide), e_call at22_5, cut_map]
  refine M.shorts_ok (Γ := ft5) ⟨ft2, 0, at5_2⟩ (cutL ns (some 4) (some 14)) ps.length (by omega) (by have := cut_le ns (some 4) (some 14); omega) fun s1 l1 r1 => ?_
  have l1 : s1.length ≤ 63 := by have := cut_le ns (some 4) (some 14); omega
  simp [-fs_if, e_call at22_1, cl, sz 1 (by decide), e_call at22_5]
  refine M.shorts_ok (Γ := ft5) ⟨ft2, 0, at5_2⟩ [M.cellI ns 3] ps.length (by omega) (by simp) fun so lo ro => ?_
  obtain ⟨ov, rfl⟩ : ∃ ov, so = [ov] := by
    match so, lo with
    | [a], _ => exact ⟨a, rfl⟩
  have ho := ro ov List.mem_cons_self
  have i0 : semIx (.list [tx ov]) (.int 0) = some (tx ov) := rfl
  simp [-fs_if, i0, e_call at22_1, cl, En.mod_int]
  obtain ⟨I, hI⟩ : ∃ I : List Sl → Prop, ∀ e, I e = ∃ ov : Tx, Row ps.length ov ∧ e = [.fr true (.list (ns.map .int)), .fr false (.int (w : Int)), .fr false (psD ps), .fr false (M.whereD w ps b), .fr false (.list (s1.map tx)), .fr false (tx ov), .no, .no, .no, .no, .no, .no, .no, .no, .no, .no, .no] := ⟨_, fun _ => rfl⟩
  refine fs_cut I (fun _ => ?_) (fun _ => ?_) (fun e h => ?_)
  · simp [dashes (n := ps.length) (by omega)]
    rw [hI]
    exact ⟨List.replicate ps.length 45, dash_row _, rfl⟩
  · simp
    rw [hI]
    exact ⟨ov, ho, rfl⟩
  rw [hI] at h
  obtain ⟨ov, ho, rfl⟩ := h
  simp [-fs_if, e_call at22_9]
  refine rs_lc (fun i m L => m = false ∧ L = ((s1.map fun s => spreadL s ps (List.replicate w 45)).take i).map tx) ⟨rfl, rfl⟩ (fun i d m L hd' h => ?_) (fun m L h => ?_)
  · obtain ⟨rfl, rfl⟩ := h
    obtain ⟨hi, rfl⟩ := map_at hd'
    simp [lcT, e_call at22_10, dashes (n := w) (by omega), psD]
    refine M.spread_ok (Γ := ft10) s1[i] ps _ (by rw [List.length_replicate]; omega) (by rw [List.length_replicate]; exact pw) ?_
    simp
    rw [take_get (l := s1.map (tx ∘ fun s => spreadL s ps (List.replicate w 45))) (a := tx (spreadL s1[i] ps (List.replicate w 45))) (by rw [List.getElem?_map, List.getElem?_eq_getElem hi]; rfl)]
  obtain ⟨rfl, rfl⟩ := h
  rw [List.length_map, List.take_of_length_le (by simp)]
  refine ⟨sz _ (by omega), ?_⟩
  have ro1 := sp_row pn pw r1
  have te1 : ∀ r ∈ s1.map (fun s => spreadL s ps (List.replicate w 45)), ∀ i x : Nat, r[i]? = some x → x ≠ 45 → i ∈ ps := fun r hr i x e n => by
    obtain ⟨s, _, rfl⟩ := List.mem_map.mp hr
    exact spread_tell i x e n
  have hf1 : (s1.map fun s => spreadL s ps (List.replicate w 45)).length ≤ 1000 := by simp; omega
  have gr : GrOf w ps ((choicesL ps.length).filter (fitsAny s1)) (canon w 0 (setR (s1.map fun s => spreadL s ps (List.replicate w 45)) 0) []) := grOf_canon (by omega) p8 ro1 te1 fun l hl => by
    rw [good_in (atS_ltr pw hl), ← heap_in pn pw r1 hl]
    unfold setR
    simp
  have g1 : fn9 [.list ((s1.map fun s => spreadL s ps (List.replicate w 45)).map tx)] = .ok (.fr false (grD (canon w 0 (setR (s1.map fun s => spreadL s ps (List.replicate w 45)) 0) []))) := graphG_eq ⟨by omega, hf1, ro1, te1, p8⟩
  generalize (s1.map fun s => spreadL s ps (List.replicate w 45)) = h1 at *
  generalize canon w 0 (setR h1 0) [] = g at *
  simp [-fs_if, g1, M.semIx0, M.semIx1, sz 2 (by decide), e_call at22_13, psD]
  refine M.good_ok (Γ := ft13) ⟨ft11, 0, at13_11⟩ ⟨ft12, 0, at13_12⟩ p8 s1 (by omega) r1 ?_
  have gf := good_few p8 s1
  generalize (choicesL ps.length).filter (fitsAny s1) = G at *
  simp [-fs_if, e_call at22_11]
  refine M.choices_ok (Γ := ft11) ps.length p8 ?_
  have cf : (choicesL ps.length).length ≤ 256 := by rw [choices_len]; exact Nat.pow_le_pow_right (by decide) p8
  simp [-fs_if]
  refine rs_lc (fun i m L => m = false ∧ L = (((choicesL ps.length).take i).filter fun c => decide (wr c ov ∈ G)).map tx) ⟨rfl, rfl⟩ (fun i d m L hd' h => ?_) (fun m L h => ?_)
  · obtain ⟨rfl, rfl⟩ := h
    obtain ⟨hi, rfl⟩ := map_at hd'
    have hcl := choices_ltr (List.getElem_mem hi)
    have tk := take_get (List.getElem?_eq_getElem hi)
    generalize (choicesL ps.length)[i] = c at *
    simp [lcT, e_call at22_14]
    refine M.lawWritten_ok (Γ := ft14) c ov (by rw [hcl.1]; omega) ?_
    by_cases hm : wr c ov ∈ G
    · simp [in_txs, hm]
      rw [tk, List.filter_append, List.filter_cons]
      simp [hm]
    · simp [in_txs, hm]
      rw [tk, List.filter_append, List.filter_cons]
      simp [hm]
  obtain ⟨rfl, rfl⟩ := h
  rw [List.length_map, List.take_of_length_le (by simp)]
  refine ⟨sz _ (by omega), ?_⟩
  simp
  exact hn w ps G g b ov ⟨w2, pn, pw, p8, gr, hb, ho⟩ _ _ _ _ _ _ _ _ _ _ _
def env14 (w : Nat) (ps : List Nat) (b ov : Tx) (g : Nat × List Nd) (G : List Tx) (v6 v7 : V) (s0 s4 s11 s12 s13 s14 s15 s16 : Sl) : List Sl := [s0, .fr true (.int (w : Int)), .fr true (psD ps), .fr true (M.whereD w ps b), s4, .fr true (tx ov), .kn v6 true (grD g), .kn v7 true (keptD g), .fr true (.list (G.map tx)), .fr true (.list ((choicesL ps.length).map tx)), .fr true (.list ((belowL ps.length G ov).map tx)), s11, s12, s13, s14, s15, s16]
def dashW (w : Nat) : Tx := List.replicate w 45
def overW (w : Nat) (ps : List Nat) (ov : Tx) : Tx := spreadL ov ps (List.replicate w 45)
section
variable {w : Nat} {ps : List Nat} {b ov : Tx} {g : Nat × List Nd} {G : List Tx} {v6 v7 : V} {s0 s4 s11 s12 s13 s14 s15 s16 : Sl}
theorem dsE_ev (P : Pre w ps G g b ov) : evE ft22 (env14 w ps b ov g G v6 v7 s0 s4 s11 s12 s13 s14 s15 s16) K14H.dsE = .ok (.fr false (tx (dashW w))) := by
  have := P.w2
  simp [K14H.dsE, env14, dashes (n := w) (by omega), dashW]
theorem ovE_ev (P : Pre w ps G g b ov) : evE ft22 (env14 w ps b ov g G v6 v7 s0 s4 s11 s12 s13 s14 s15 s16) K14H.ovE = .ok (.fr false (tx (overW w ps ov))) := by
  have w2 := P.w2
  have m2 : RS (fun _ => False) (evE ft22 (env14 w ps b ov g G v6 v7 s0 s4 s11 s12 s13 s14 s15 s16) K14H.ovE) fun v => v = .fr false (tx (overW w ps ov)) := by
    simp [K14H.ovE, env14, e_call at22_10, dashes (n := w) (by omega), psD]
    refine M.spread_ok (Γ := ft10) ov ps _ (by rw [List.length_replicate]; omega) (by rw [List.length_replicate]; exact P.pw) ?_
    simp [overW]
  obtain ⟨a, e, rfl⟩ := rs_eq m2
  exact e
theorem kept_eq (g : Nat × List Nd) : eqO (grD g) (keptD g) = some true := Eq.trans (congrArg (eqO (grD g)) (show keptD g = grD g from rfl)) ((eq_gr g g).trans (congrArg some (decide_eq_true rfl)))
theorem gg_eq (g : Nat × List Nd) : eqO (grD g) (grD g) = some true := (eq_gr g g).trans (congrArg some (decide_eq_true rfl))
theorem eqE_ev {x0 x1 x2 x3 x4 x5 x8 x9 x10 x11 x12 x13 x14 x15 x16 : Sl} : evE ft22 [x0, x1, x2, x3, x4, x5, .kn v6 true (grD g), .kn v7 true (keptD g), x8, x9, x10, x11, x12, x13, x14, x15, x16] K14H.eqE = .ok (.fr false (.bool true)) := by
  simp [K14H.eqE, kept_eq]
theorem same_ok (P : Pre w ps G g b ov) {D : List Tx} {g' : Nat × List Nd} (df : D.length ≤ 256) (dl : ∀ c ∈ D, Ltr ps.length c) (gr : GrOf w ps D g') {X : Str → Prop} {K : Rv → Prop} (q : K (.fr false (.bool true))) : RS X (fn19 [grD g', .list (D.map tx), M.whereD w ps b]) K :=
  M.lawSame_ok (Γ := ft19) ⟨ft11, 0, at19_11⟩ ⟨ft10, 0, at19_10⟩ at19_9 ⟨ft17, 0, at19_17⟩ ⟨ft18, 0, at19_18⟩ P.w2 P.pn P.pw P.p8 P.hb df dl gr q
theorem few (P : Pre w ps G g b ov) : (choicesL ps.length).length ≤ 256 := by rw [choices_len]; exact Nat.pow_le_pow_right (by decide) P.p8
theorem blk12_fs (P : Pre w ps G g b ov) {u : V} {fuel : Nat} {N : List Sl → Prop} (hn : N (env14 w ps b ov g G v6 v7 s0 s4 (.kn u true (grD (underN g (overW w ps ov)))) s12 s13 s14 s15 s16)) :
    FS (fun _ => False) (fun _ => False) (fun _ => False) (fun _ => False) (evSs ft22 fuel K14H.blk12 (env14 w ps b ov g G v6 v7 s0 s4 (.kn u true (grD (underN g (overW w ps ov)))) s12 s13 s14 s15 s16)) N := by
  have gu := grOf_under (by have := P.w2; omega) P.pn P.pw P.p8 P.gr P.ho
  simp [-fs_if, K14H.blk12, env14, e_call at22_19]
  refine same_ok P (Nat.le_trans (List.length_filter_le _ _) (few P)) below_ltr gu ?_
  simp
  exact hn
theorem blk14_fs (P : Pre w ps G g b ov) {u : V} {fuel : Nat} {N : List Sl → Prop} (hn : N (env14 w ps b ov g G v6 v7 s0 s4 s11 (.kn u true (grD (otherN g))) s13 s14 s15 s16)) :
    FS (fun _ => False) (fun _ => False) (fun _ => False) (fun _ => False) (evSs ft22 fuel K14H.blk14 (env14 w ps b ov g G v6 v7 s0 s4 s11 (.kn u true (grD (otherN g))) s13 s14 s15 s16)) N := by
  have go := grOf_other (by have := P.w2; omega) P.pn P.pw P.p8 P.gr
  have cf := few P
  simp [-fs_if, K14H.blk14, env14, e_call at22_19]
  refine rs_lc (fun i m L => m = false ∧ L = (((choicesL ps.length).take i).filter fun c => decide (¬ c ∈ G)).map tx) ⟨rfl, rfl⟩ (fun i d m L hd' h => ?_) (fun m L h => ?_)
  · obtain ⟨rfl, rfl⟩ := h
    obtain ⟨hi, rfl⟩ := map_at hd'
    have tk := take_get (List.getElem?_eq_getElem hi)
    generalize (choicesL ps.length)[i] = c at *
    by_cases hm : c ∈ G
    · simp [lcT, in_txs, hm]
      rw [tk, List.filter_append, List.filter_cons]
      simp [hm]
    · simp [lcT, in_txs, hm]
      rw [tk, List.filter_append, List.filter_cons]
      simp [hm]
  obtain ⟨rfl, rfl⟩ := h
  rw [List.length_map, List.take_of_length_le (by simp)]
  refine ⟨sz _ (by omega), ?_⟩
  simp [-fs_if]
  have fe : ((choicesL ps.length).filter fun c => !decide (c ∈ G)) = aboutL ps.length G := List.filter_congr fun c _ => by simp
  rw [fe]
  refine same_ok P (D := aboutL ps.length G) (Nat.le_trans (List.length_filter_le _ _) (few P)) about_ltr go ?_
  simp
  exact hn
theorem blk16_fs {u : V} {fuel : Nat} {N : List Sl → Prop} (hn : N (env14 w ps b ov g G v6 v7 s0 s4 s11 s12 (.kn u true (grD g)) s14 s15 s16)) :
    FS (fun _ => False) (fun _ => False) (fun _ => False) (fun _ => False) (evSs ft22 fuel K14H.blk16 (env14 w ps b ov g G v6 v7 s0 s4 s11 s12 (.kn u true (grD g)) s14 s15 s16)) N := by
  simp [K14H.blk16, env14, kept_eq, gg_eq]
  exact hn
end
theorem EnvOk.to_kn {H0 : Hp} {M0 : AS} {H : Hp} {M : AS} {σ : L2.St} {env : List Sl} (ok : EnvOk H0 M0 H M σ env) {i : Nat} {v : V} {m : Bool} {d : D} (e : env[i]? = some (.fr m d)) (hv : σ[i]? = some (some v)) : EnvOk H0 M0 H M σ (env.set i (.kn v m d)) := by
  have hi := (List.getElem?_eq_some_iff.mp e).1
  refine ok.ch (by rw [List.length_set]; exact ok.len) fun j s e2 => ?_
  by_cases hj : i = j
  · subst hj
    rw [List.getElem?_set_self hi] at e2
    cases e2
    obtain ⟨v', q, t⟩ := ok.sl i _ e
    rw [hv] at q
    cases q
    exact .inr ⟨fun _ _ q => (nomatch q), hv, t⟩
  · rw [List.getElem?_set_ne hj] at e2
    exact .inl ⟨e2, rfl⟩
def startS (ns : List Int) : List Sl := [.fr true (.list (ns.map .int)), .no, .no, .no, .no, .no, .no, .no, .no, .no, .no, .no, .no, .no, .no, .no, .no]
section
variable {k : Nat}
theorem law_body {X : Cx} {E : XK} (ox : OkS X ft22 E k (exL [])) {fu fo : Addr} {fdu fdo : FuncData} {psu pso : List Str}
    (Fu : FnOk X.prog X.w X.K X.mg X.base (L2.CX X.prog X.w) k fu fdu psu (spGr 2 underG)) (mu : X.mg "graph_under" = some (.ref fu)) (ku : PySem.W.keepIn X.K (.ref fu) = true) (bu : Binds X.K fdu psu [])
    (Fo : FnOk X.prog X.w X.K X.mg X.base (L2.CX X.prog X.w) k fo fdo pso (spGr 1 otherG)) (mo : X.mg "graph_other" = some (.ref fo)) (ko : PySem.W.keepIn X.K (.ref fo) = true) (bo : Binds X.K fdo pso [])
    (ss : List Stmt) (hc : K14H.okLaw X.N X.env.scope ss = true) :
    PSs X ss (fun Dn σ H => ∃ (Mx : AS) (ns : List Int), EnvOk H Mx H Mx σ (startS ns) ∧ ns.length ≤ 63 ∧ ∀ H', Same H H' → Dn.rt (.bl true) H') := by
  unfold K14H.okLaw at hc
  split at hc
  · rename_i s0 s1 s2 s3 s4 s5 s6 s7 s8 s9 s10 fi p1 f1 q1 g1 q2 a1 q3 q4 s12 ot p2 f2 q5 g2 q6 q7 q8 s14 ag p3 f3 q9 o3 q10 q11 q12 s16 tg l1 q13 l2 q14 l3 q15 f4 q16 g4 q17 a4 q18 q19 s17 q20 c q21
    simp only [Bool.and_eq_true, decide_eq_true_eq] at hc
    obtain ⟨⟨⟨⟨⟨⟨⟨⟨⟨h0, h1⟩, rfl⟩, h2⟩, h3⟩, h4⟩, h5⟩, ⟨⟨⟨⟨i1, rfl⟩, i2⟩, i3⟩, i4⟩⟩, ⟨⟨⟨⟨j1, rfl⟩, j2⟩, j3⟩, j4⟩⟩, ⟨⟨⟨⟨⟨⟨⟨⟨⟨e1, e2⟩, e3⟩, e4⟩, rfl⟩, e5⟩, e6⟩, e7⟩, e8⟩, e9⟩⟩ := hc
    obtain ⟨w1, w1'⟩ := tg_loc h1
    obtain ⟨w2, w2'⟩ := tg_loc i1
    obtain ⟨w3, w3'⟩ := tg_loc j1
    have cp : ∀ (cls : Value) (d : Option Addr) (σ : L2.St) (H : Hp), E cls d H → E cls d H := fun _ _ _ _ q => q
    have rm : Room k X.A := ox.ok.room.mono (by omega)
    have call1 := pe_call (p := q1) (pos := q3) (X := X) Fu rm (gl_of h2).1 mu ku bu .nil (passes_call ox.ok.tk cp) (pa_cons (pe_v (pos := q2) h3) (pa_cons (sE _ a1 ox.ok h4).1 pa_nil (star_cons h4 _ _))) (gl_of h2).2 rfl (back_any _ _ (by rw [star_cons h4]; rfl))
    have call2 := pe_call (p := q5) (pos := q7) (X := X) Fo rm (gl_of i2).1 mo ko bo .nil (passes_call ox.ok.tk cp) (pa_cons (pe_v (pos := q6) i3) pa_nil) (gl_of i2).2 rfl rfl
    have call3 := pe_call (p := q9) (pos := q11) (X := X) Fo rm (gl_of j2).1 mo ko bo .nil (passes_call ox.ok.tk cp) (pa_cons (pe_v (pos := q10) j3) pa_nil) (gl_of j2).2 rfl rfl
    have call4 := pe_call (p := q16) (pos := q18) (X := X) Fu rm (gl_of e5).1 mu ku bu .nil (passes_call ox.ok.tk cp) (pa_cons (pe_v (pos := q17) e6) (pa_cons (sE _ a4 ox.ok e7).1 pa_nil (star_cons e7 _ _))) (gl_of e5).2 rfl (back_any _ _ (by rw [star_cons e7]; rfl))
    have loop := ps_for (pos := q20) ox.own ox.ok.calm (pi_list (tg := tg) (pe_lst (pos := q19) (pa_cons (pe_v (pos := q13) e2) (pa_cons (pe_v (pos := q14) e3) (pa_cons (pe_v (pos := q15) e4) (pa_cons call4 pa_nil)))))) (g_ok (g := .n 14) ox.ok.nd ox.ok.calm ox.fnIn e1) (pss_cons (ap_ok ox 14 s17 e8) pss_nil)
    refine PSs.imp (sApp (fuel := 0) K14H.blkA [s0, s1, s2, s3, s4, s5, s6, s7, s8, s9, s10] _ ox h0 (pss_cons (ps_set (pos := q4) (pos' := p1) ox.ok.nd w1 w1' call1 rfl (.inl (ox.fn _))) (sApp (fuel := 0) K14H.blk12 [s12] _ ox h5 (pss_cons (ps_set (pos := q8) (pos' := p2) ox.ok.nd w2 w2' call2 rfl (.inl (ox.fn _))) (sApp (fuel := 0) K14H.blk14 [s14] _ ox i4
      (pss_cons (ps_set (pos := q12) (pos' := p3) ox.ok.nd w3 w3' call3 rfl (.inl (ox.fn _))) (sApp (fuel := 0) K14H.blk16 [s16] _ ox j4 (pss_cons loop (pss_cons (ps_ret (pos := q21) (sE _ c ox.ok e9).1) pss_nil))))))))) fun Dn σ H ⟨Mx, ns, eo, hns, q⟩ => ?_
    refine ⟨H, Mx, Mx, _, eo, ?_⟩
    refine sp_fs (blkA_fs ns hns (fuel := 0) (N := fun e => ∃ (w : Nat) (ps : List Nat) (G : List Tx) (g : Nat × List Nd) (b ov : Tx) (x0 x4 : Sl) (m1 m2 m3 m5 m6 m7 m8 m9 m10 : Bool), Pre w ps G g b ov ∧ e = [x0, .fr m1 (.int (w : Int)), .fr m2 (psD ps), .fr m3 (M.whereD w ps b), x4, .fr m5 (tx ov), .fr m6 (grD g), .fr m7 (keptD g), .fr m8 (.list (G.map tx)), .fr m9 (.list ((choicesL ps.length).map tx)), .fr m10 (.list ((belowL ps.length G ov).map tx)), .no, .no, .no, .no, .no, .no]) fun w ps G g b ov P x0 x4 m1 m2 m3 m5 m6 m7 m8 m9 m10 => ⟨w, ps, G, g, b, ov, x0, x4, m1, m2, m3, m5, m6, m7, m8, m9, m10, P, rfl⟩) (fun r hr => False.elim hr) fun e he σ1 H1 M1 k1 ev1 => ?_
    obtain ⟨w, ps, G, g, b, ov, x0, x4, m1, m2, m3, m5, m6, m7, m8, m9, m10, P, rfl⟩ := he
    obtain ⟨v6, z6, _⟩ := k1.sl 6 _ rfl
    obtain ⟨v7, z7, _⟩ := k1.sl 7 _ rfl
    have pw2 := P.w2
    have k1r : EnvOk H1 M1 H1 M1 σ1 (env14 w ps b ov g G v6 v7 (rbS x0) (rbS x4) .no .no .no .no .no .no) := EnvOk.to_kn (i := 7) (EnvOk.to_kn (i := 6) k1.rebase rfl z6) rfl z7
    -- first
    refine ⟨v6, z6, H1, M1, M1, _, k1r, ?_⟩
    rw [ovE_ev P]
    intro u0 H2 t2 rv0
    have rv0 : Dt H2 (Lm H1 M1 false) u0 (tx (overW w ps ov)) := rv0
    have hu0 := dt_tx rv0
    subst hu0
    have k2 := k1r.up t2
    have d6 : Dt H2 (fun a => ¬ False) v6 (grD g) := (k2.sl 6 _ rfl).2.wk fun _ _ z => z
    have rowO : Row w (overW w ps ov) := spread_row P.pn P.pw P.ho (dash_row w)
    refine ⟨rfl, fun _ => False, [grD g, tx (overW w ps ov)], underN g (overW w ps ov), fun _ z => z.elim, .cons d6 (.cons (.str _) .nil), underG_eq (unIn_of P.p8 P.gr rowO), fun u1 H3 t3 gr1 => ?_⟩
    have fL1 : ∀ a, H2 a = none → Lm H3 M1 true a := fun a ha => ⟨fun z => (by
      obtain ⟨o', eo', _⟩ := k2.dom a z
      rw [ha] at eo'
      cases eo'), fun z => by cases z⟩
    have k3 := (k2.up t3).rebase.set_kn (i := 11) (gr1.dt fL1) (by simp [env14])
    have k3 : EnvOk H3 M1 H3 M1 (σ1.set 11 (some u1)) (env14 w ps b ov g G v6 v7 (rbS (rbS x0)) (rbS (rbS x4)) (.kn u1 true (grD (underN g (overW w ps ov)))) .no .no .no .no .no) := k3
    refine ⟨H3, M1, M1, _, k3, ?_⟩
    refine sp_fs (blk12_fs P (fuel := 0) (N := fun e => e = env14 w ps b ov g G v6 v7 (rbS (rbS x0)) (rbS (rbS x4)) (.kn u1 true (grD (underN g (overW w ps ov)))) .no .no .no .no .no) rfl) (fun r hr => False.elim hr) fun e he σ4 H4 M4 k4 ev4 => ?_
    subst he
    -- other
    have d6' : Dt H4 (fun a => ¬ False) v6 (grD g) := (k4.sl 6 _ rfl).2.wk fun _ _ z => z
    have gf := P.gr.fit.few
    refine ⟨v6, (k4.sl 6 _ rfl).1, rfl, fun _ => False, [grD g], otherN g, fun _ z => z.elim, .cons d6' .nil, otherG_eq (by omega), fun u2 H5 t5 gr2 => ?_⟩
    have fL2 : ∀ a, H4 a = none → Lm H5 M4 true a := fun a ha => ⟨fun z => (by
      obtain ⟨o', eo', _⟩ := k4.dom a z
      rw [ha] at eo'
      cases eo'), fun z => by cases z⟩
    have k5 := (k4.up t5).rebase.set_kn (i := 12) (gr2.dt fL2) (by simp [env14])
    have k5 : EnvOk H5 M4 H5 M4 (σ4.set 12 (some u2)) (env14 w ps b ov g G v6 v7 (rbS (rbS (rbS x0))) (rbS (rbS (rbS x4))) (.kn u1 true (grD (underN g (overW w ps ov)))) (.kn u2 true (grD (otherN g))) .no .no .no .no) := k5
    refine ⟨H5, M4, M4, _, k5, ?_⟩
    refine sp_fs (blk14_fs P (fuel := 0) (N := fun e => e = env14 w ps b ov g G v6 v7 (rbS (rbS (rbS x0))) (rbS (rbS (rbS x4))) (.kn u1 true (grD (underN g (overW w ps ov)))) (.kn u2 true (grD (otherN g))) .no .no .no .no) rfl) (fun r hr => False.elim hr) fun e he σ6 H6 M6 k6 ev6 => ?_
    subst he
    -- again
    have d12 : Dt H6 (fun a => ¬ False) u2 (grD (otherN g)) := (k6.sl 12 _ rfl).2.wk fun _ _ z => z
    refine ⟨u2, (k6.sl 12 _ rfl).1, rfl, fun _ => False, [grD (otherN g)], otherN (otherN g), fun _ z => z.elim, .cons d12 .nil, otherG_eq (by simp only [otherN, List.length_map]; omega), fun u3 H7 t7 gr3 => ?_⟩
    rw [other_other] at gr3
    have fL3 : ∀ a, H6 a = none → Lm H7 M6 true a := fun a ha => ⟨fun z => (by
      obtain ⟨o', eo', _⟩ := k6.dom a z
      rw [ha] at eo'
      cases eo'), fun z => by cases z⟩
    have k7 := (k6.up t7).rebase.set_kn (i := 13) (gr3.dt fL3) (by simp [env14])
    have k7 : EnvOk H7 M6 H7 M6 (σ6.set 13 (some u3)) (env14 w ps b ov g G v6 v7 (rbS (rbS (rbS (rbS x0)))) (rbS (rbS (rbS (rbS x4)))) (.kn u1 true (grD (underN g (overW w ps ov)))) (.kn u2 true (grD (otherN g))) (.kn u3 true (grD g)) .no .no .no) := k7
    refine ⟨H7, M6, M6, _, k7, ?_⟩
    refine sp_fs (blk16_fs (fuel := 0) (N := fun e => e = env14 w ps b ov g G v6 v7 (rbS (rbS (rbS (rbS x0)))) (rbS (rbS (rbS (rbS x4)))) (.kn u1 true (grD (underN g (overW w ps ov)))) (.kn u2 true (grD (otherN g))) (.kn u3 true (grD g)) .no .no .no) rfl) (fun r hr => False.elim hr) fun e he σ8 H8 M8 k8 ev8 => ?_
    subst he
    -- the four of them
    have y6 := (k8.sl 6 _ rfl).1
    have y7 := (k8.sl 7 _ rfl).1
    have d6'' : Dt H8 (fun a => ¬ False) v6 (grD g) := (k8.sl 6 _ rfl).2.wk fun _ _ z => z
    refine ⟨u1, (k8.sl 11 _ rfl).1, u3, (k8.sl 13 _ rfl).1, u2, (k8.sl 12 _ rfl).1, v6, y6, H7, M6, M8, _, k8, ?_⟩
    rw [dsE_ev P]
    intro u9 H9 t9 rv9
    have rv9 : Dt H9 (Lm H7 M8 false) u9 (tx (dashW w)) := rv9
    have hu9 := dt_tx rv9
    subst hu9
    refine ⟨rfl, fun _ => False, [grD g, tx (dashW w)], underN g (dashW w), fun _ z => z.elim, .cons (sm_dt t9 d6'') (.cons (.str _) .nil), underG_eq (unIn_of P.p8 P.gr (dash_row w)), fun u4 H10 t10 gr4 => ?_⟩
    refine ⟨sz _ (show 4 ≤ 16777216 by decide), fun qa hqa => ?_⟩
    have t11 : Same H10 (upd H10 qa (.lst [u1, u3, u2, u4])) := same_new hqa
    have lq : (upd H10 qa (.lst [u1, u3, u2, u4])) qa = some (.lst [u1, u3, u2, u4]) := upd_same
    generalize upd H10 qa (.lst [u1, u3, u2, u4]) = H11 at *
    refine ⟨qa, rfl, ⟨_, .inl (.inl lq)⟩, ?_⟩
    have c34 := k4.same
    have c56 := k6.same
    have c78 := k8.same
    have r10 : Same H9 H10 := t10
    have c7 : Same H7 H10 := (c78.trans t9).trans t10
    have c5 : Same H5 H10 := (c56.trans t7).trans c7
    have c3 : Same H3 H10 := (c34.trans t5).trans c5
    have c1 : Same H1 H10 := (t2.trans t3).trans c3
    have c14 : Same H1 H4 := (t2.trans t3).trans c34
    have c16 : Same H1 H6 := (c14.trans t5).trans c56
    have c19 : Same H1 H9 := ((c16.trans t7).trans c78).trans t9
    have f1 : (underN g (overW w ps ov)).2.length ≤ 2 ^ 10 := (grOf_under (by omega) P.pn P.pw P.p8 P.gr P.ho).fit.few
    have p8 := Nat.pow_le_pow_right (n := 2) (by decide) P.p8
    have f4 : (underN g (dashW w)).2.length ≤ 2 ^ 10 := by
      have hl : (dashW w).length = w := List.length_replicate
      have := under_grow (one := g.2) (over := dashW w) (w := (dashW w).length) (by rw [hl]; exact dash_row w) ps.length ps g.1 0 8 [] (Nat.le_refl _) (Nat.zero_le _) (by rw [hl]; exact P.gr.fit.dep)
      have h2 : (underN g (dashW w)).2.length + 1 ≤ ([] : List Nd).length + 2 ^ ps.length := this
      simp only [List.length_nil] at h2
      omega
    obtain ⟨z1, a1, xs1, rfl, lz1, la1, hx1, ha1⟩ := gr1
    obtain ⟨z2, a2, xs2, rfl, lz2, la2, hx2, ha2⟩ := gr2
    obtain ⟨z3, a3, xs3, rfl, lz3, la3, hx3, ha3⟩ := gr3
    obtain ⟨z4, a4', xs4, rfl, lz4, la4, hx4, ha4⟩ := gr4
    have n1 := hx1.length
    have n2 := hx2.length
    have n3 := hx3.length
    have n4 := hx4.length
    rw [List.length_map] at n1 n2 n3 n4
    have n2' : (otherN g).2.length = g.2.length := by simp [otherN]
    have A1 : H10 a1 = some (.lst xs1) := c3 _ _ la1
    have A2 : H10 a2 = some (.lst xs2) := c5 _ _ la2
    have A3 : H10 a3 = some (.lst xs3) := c7 _ _ la3
    have A4 : H10 a4' = some (.lst xs4) := la4
    have Z1 : H11 z1 = some (.tup [.int ((underN g (overW w ps ov)).1 : Int), .ref a1]) := t11 _ _ (c3 _ _ lz1)
    have Z2 : H11 z2 = some (.tup [.int ((otherN g).1 : Int), .ref a2]) := t11 _ _ (c5 _ _ lz2)
    have Z3 : H11 z3 = some (.tup [.int (g.1 : Int), .ref a3]) := t11 _ _ (c7 _ _ lz3)
    have Z4 : H11 z4 = some (.tup [.int ((underN g (dashW w)).1 : Int), .ref a4']) := t11 _ _ lz4
    obtain ⟨A, hA⟩ : ∃ A : AS, ∀ a, A a = (a = a1 ∨ a = a2 ∨ a = a3 ∨ a = a4') := ⟨_, fun _ => rfl⟩
    have inA : ∀ a, A a → ∃ xs, H10 a = some (.lst xs) ∧ xs.length ≤ 2 ^ 11 := fun a h => by
      rw [hA] at h
      rcases h with rfl | rfl | rfl | rfl
      · exact ⟨_, A1, by omega⟩
      · exact ⟨_, A2, by omega⟩
      · exact ⟨_, A3, by omega⟩
      · exact ⟨_, A4, by omega⟩
    have oldA : ∀ a, A a → H1 a = none := fun a h => by
      rw [hA] at h
      rcases h with rfl | rfl | rfl | rfl
      · exact t2.free ha1
      · exact c14.free ha2
      · exact c16.free ha3
      · exact c19.free ha4
    have tupA : ∀ z u, H11 z = some (.tup u) → ¬ A z := fun z u e h => by
      obtain ⟨xs, e2, _⟩ := inA z h
      rw [t11 _ _ e2] at e
      cases e
    have qaA : ¬ A qa := fun h => by
      obtain ⟨xs, e2, _⟩ := inA qa h
      rw [hqa] at e2
      cases e2
    have turn : ∀ (i : Nat) (x : V), [V.ref z1, .ref z3, .ref z2, .ref z4][i]? = some x → ∃ (z a : Addr) (n : Int), x = .ref z ∧ H11 z = some (.tup [.int n, .ref a]) ∧ A a := fun i x e => by
      have hm := List.mem_of_getElem? e
      simp only [List.mem_cons, List.not_mem_nil, or_false] at hm
      rcases hm with rfl | rfl | rfl | rfl
      · exact ⟨_, _, _, rfl, Z1, by rw [hA]; exact .inl rfl⟩
      · exact ⟨_, _, _, rfl, Z3, by rw [hA]; exact .inr (.inr (.inl rfl))⟩
      · exact ⟨_, _, _, rfl, Z2, by rw [hA]; exact .inr (.inl rfl)⟩
      · exact ⟨_, _, _, rfl, Z4, by rw [hA]; exact .inr (.inr (.inr rfl))⟩
    refine for_it (walk_list (K := X.K) (a := qa) (xs := [V.ref z1, .ref z3, .ref z2, .ref z4])) (fun i σ2 Hh => σ2[6]? = some (some v6) ∧ σ2[7]? = some (some v7) ∧ σ2.length = 17 ∧ i ≤ 4 ∧ (∀ c u, ¬ A c → H11 c = some u → Hh c = some u) ∧ ∀ a, A a → ∃ xs, Hh a = some (.lst xs) ∧ xs.length ≤ 2 ^ 11 + i) ⟨y6, y7, k8.len, Nat.zero_le _, fun c u _ e => e, fun a h => by
      obtain ⟨xs, e, hl⟩ := inA a h
      exact ⟨xs, t11 _ _ e, by omega⟩⟩ ?_ ?_ ?_
    · rintro i σ2 Hh _ ⟨_, _, _, _, fr, _⟩
      exact .inl (.inl (fr _ _ qaA lq))
    · rintro i x σ2 Hh Hh' hlt ⟨b6, b7, bl, bi, fr, bA⟩ ⟨rfl, yx⟩
      obtain ⟨z, a, n, rfl, hz, ha⟩ := turn i x yx
      obtain ⟨xs, ea, hl⟩ := bA a ha
      have hlt' : i < 4 := hlt
      refine ⟨z, a, n, xs, by rw [List.getElem?_set_self (by omega)], fr _ _ (tupA _ _ hz) hz, ea, slt (by omega), fun H' v kk ll => ?_⟩
      refine ⟨by rw [List.getElem?_set_ne (by decide)]; exact b6, by rw [List.getElem?_set_ne (by decide)]; exact b7, by rw [List.length_set]; exact bl, by omega, fun c u hc e => kk c u (fun h => hc (by rw [h]; exact ha)) (fr c u hc e), fun a' ha' => ?_⟩
      by_cases h : a' = a
      · subst h
        exact ⟨_, ll, by rw [List.length_append, List.length_singleton]; omega⟩
      · obtain ⟨xs', e', l'⟩ := bA a' ha'
        exact ⟨xs', kk a' _ h e', by omega⟩
    · rintro σ2 Hf ⟨b6, b7, bl, bi, fr, bA⟩
      have sF : Same H1 Hf := fun c u e => fr c u (fun h => by rw [oldA c h] at e; cases e) (t11 _ _ (c1 _ _ e))
      have D6 : Dt Hf (fun a => ¬ False) v6 (grD g) := sm_dt sF ((k1r.sl 6 _ rfl).2.wk fun _ _ z => z)
      have D7 : Dt Hf (fun a => ¬ False) v7 (keptD g) := sm_dt sF ((k1r.sl 7 _ rfl).2.wk fun _ _ z => z)
      refine ⟨Hf, fun _ => False, fun _ => False, [.no, .no, .no, .no, .no, .no, .kn v6 true (grD g), .kn v7 true (keptD g), .no, .no, .no, .no, .no, .no, .no, .no, .no], ⟨bl, Same.refl _, fun _ z => z.elim, fun _ z => z.elim, fun i s e => ?_, fun i j m d m' d' a e => ?_⟩, ?_⟩
      · match i, e with
        | 0, e => cases e; trivial
        | 1, e => cases e; trivial
        | 2, e => cases e; trivial
        | 3, e => cases e; trivial
        | 4, e => cases e; trivial
        | 5, e => cases e; trivial
        | 6, e => cases e; exact ⟨b6, D6.wk fun _ z => ⟨z, fun z => by cases z⟩⟩
        | 7, e => cases e; exact ⟨b7, D7.wk fun _ z => ⟨z, fun z => by cases z⟩⟩
        | 8, e => cases e; trivial
        | 9, e => cases e; trivial
        | 10, e => cases e; trivial
        | 11, e => cases e; trivial
        | 12, e => cases e; trivial
        | 13, e => cases e; trivial
        | 14, e => cases e; trivial
        | 15, e => cases e; trivial
        | 16, e => cases e; trivial
        | i + 17, e => simp at e
      · match i, e with
        | 0, e => cases e
        | 1, e => cases e
        | 2, e => cases e
        | 3, e => cases e
        | 4, e => cases e
        | 5, e => cases e
        | 6, e => cases e
        | 7, e => cases e
        | 8, e => cases e
        | 9, e => cases e
        | 10, e => cases e
        | 11, e => cases e
        | 12, e => cases e
        | 13, e => cases e
        | 14, e => cases e
        | 15, e => cases e
        | 16, e => cases e
        | i + 17, e => simp at e
      · rw [eqE_ev]
        intro v H' s' rv
        have rv : Dt H' _ v (.bool true) := rv
        cases rv
        exact q H' ((k1.same.trans sF).trans s')
  · cases hc
end
def LawIn (ds : List D) : Prop := ∃ ns : List Int, ns.length ≤ 63 ∧ ds = [.list (ns.map .int)]
open Classical in
noncomputable def lawG (ds : List D) : R Rv := if LawIn ds then .ok (.fr false (.bool true)) else .bad
theorem law_true (ns : List Int) (h : ns.length ≤ 63) : lawG [.list (ns.map .int)] = .ok (.fr false (.bool true)) := if_pos ⟨ns, h, rfl⟩
section
variable {P : Program} {w : World} {K : PySem.W.Frag} {mg : Str → Option Value} {base : Heap}
theorem law_fn {x qual : Str} {st : Stmt} {fa : Addr} {fd : FuncData} {N : List Str} {k ku ko : Nat} (F : Fun K x qual st fa fd) (S : FnScope N ["script"] (defScope st)) (hN : N = nm22 := by rfl) (hc : K14H.okLaw N (defScope st) (defBody st) = true) (blt : Blt mg) (G : FnsOk P w K mg base k ft22) (ru : GrAt P w K mg base ku "graph_under" 2 underG) (ro : GrAt P w K mg base ko "graph_other" 1 otherG) (hu : ku ≤ k := by decide) (ho : ko ≤ k := by decide) :
    FnOk P w K mg base (L2.CX P w) (k + 3) fa fd ["script"] (spG mg 1 lawG) := by
  obtain ⟨fu, fdu, psu, Fu, mu, kku, bu⟩ := ru
  obtain ⟨fo, fdo, pso, Fo, mo, kko, bo⟩ := ro
  refine F.okX S (fun vs H Q E h => h.1) fun cdv A outer s H vs Q E hr h => ?_
  obtain ⟨hl, Ms, ds, hM, hD, h⟩ := h
  by_cases hex : LawIn ds
  · obtain ⟨ns, hns, rfl⟩ := hex
    rw [law_true ns hns] at h
    refine ⟨_, law_body (oks_of S hr blt G) (Fu.mono hu) mu kku bu (Fo.mono ho) mo kko bo (defBody st) hc, Ms, ns, ?_, hns, fun H' s => h _ H' s (.bl true)⟩
    have := env_start (N := N) hM hD (by rw [hl, hN]; decide)
    rw [hN] at this ⊢
    exact this
  · unfold lawG at h
    rw [if_neg hex] at h
    exact False.elim h
end
end K14

set_option Elab.async false
set_option linter.all false
set_option maxRecDepth 100000
set_option maxHeartbeats 4000000
namespace K14
open PySem PySem.Spec PyProof.Rows L2 En
section
variable {P : Program} {w : World} {K : PySem.W.Frag} {mg : Str → Option Value} {base : Heap}
theorem fns (h0 : Has K mg "_law_width" st0 ["cell"]) (h1 : Has K mg "_law_cell_at" st1 ["script", "k"]) (h2 : Has K mg "_law_stream" st2 ["cell", "many"]) (h3 : Has K mg "_law_places" st3 ["cell", "width"]) (h4 : Has K mg "_law_base" st4 ["cell", "width"]) (h5 : Has K mg "_law_shorts" st5 ["cells", "many"]) (h6 : Has K mg "next_told" st6 ["row", "place"]) (h7 : Has K mg "node_of" st7 ["made", "place", "no", "yes"]) (h8 : Has K mg "number_of" st8 ["made", "rows", "place"]) (h9 : Has K mg "graph_of" st9 ["heap"]) (h10 : Has K mg "_law_spread" st10 ["short", "places", "base"]) (h11 : Has K mg "_law_choices" st11 ["many"]) (h12 : Has K mg "_law_fits" st12 ["short", "choice"]) (h13 : Has K mg "_law_good" st13 ["shorts", "many"]) (h14 : Has K mg "_law_written" st14 ["choice", "over"]) (h15 : Has K mg "number_under" st15 ["made", "seen", "nodes", "number", "over"]) (h16 : Has K mg "graph_under" st16 ["graph", "over"]) (h17 : Has K mg "_law_wholes" st17 ["graph"]) (h18 : Has K mg "_law_end" st18 ["graph", "letter"]) (h19 : Has K mg "_law_same" st19 ["found", "due", "where"]) (h20 : Has K mg "turned_end" st20 ["number"]) (h21 : Has K mg "graph_other" st21 ["graph"]) (blt : Blt mg) : GrAt P w K mg base 108 "graph_under" 2 underG ∧ GrAt P w K mg base 123 "graph_other" 1 otherG ∧ FnsOk P w K mg base 123 ft22 := by
  have g1 : FnsOk P w K mg base 3 ft1 := fns_put (k := 0) fns0 h0 fs0 mf0 fu0 ok0 blt rz0
  have g2 : FnsOk P w K mg base 6 ft2 := fns_put (k := 3) g1 h1 fs1 mf1 fu1 ok1 blt rz0
  have g3 : FnsOk P w K mg base 9 ft3 := fns_put (k := 6) g2 h2 fs2 mf2 fu2 ok2 blt rz0
  have g4 : FnsOk P w K mg base 12 ft4 := fns_put (k := 9) g3 h3 fs3 mf3 fu3 ok3 blt rz0
  have g5 : FnsOk P w K mg base 15 ft5 := fns_put (k := 12) g4 h4 fs4 mf4 fu4 ok4 blt rz0
  have g6 : FnsOk P w K mg base 18 ft6 := fns_put (k := 15) g5 h5 fs5 mf5 fu5 ok5 blt rz0
  have g7 : FnsOk P w K mg base 21 ft7 := fns_put (k := 18) g6 h6 fs6 mf6 fu6 ok6 blt rz0
  have g8 : FnsOk P w K mg base 21 ft8 := g7
  have g9 : FnsOk P w K mg base 21 ft9 := g8
  have g10 : FnsOk P w K mg base 57 ft10 := fns_graph (k := 21) g9 ⟨ft6, 100000, by decide, at8_6⟩ blt h7 fs7 rfl rfl ok7 h8 fs8 rfl rfl ok8 h9 fs9 rfl rfl ok9
  have g11 : FnsOk P w K mg base 60 ft11 := fns_put (k := 57) g10 h10 fs10 mf10 fu10 ok10 blt rz0
  have g12 : FnsOk P w K mg base 63 ft12 := fns_put (k := 60) g11 h11 fs11 mf11 fu11 ok11 blt rz0
  have g13 : FnsOk P w K mg base 66 ft13 := fns_put (k := 63) g12 h12 fs12 mf12 fu12 ok12 blt rz0
  have g14 : FnsOk P w K mg base 69 ft14 := fns_put (k := 66) g13 h13 fs13 mf13 fu13 ok13 blt rz0
  have g15 : FnsOk P w K mg base 72 ft15 := fns_put (k := 69) g14 h14 fs14 mf14 fu14 ok14 blt rz0
  have g16 : FnsOk P w K mg base 72 ft16 := g15
  have q16 : GrAt P w K mg base 108 "graph_under" 2 underG ∧ FnsOk P w K mg base 108 ft17 := fns_under (k := 72) g16 blt h7 fs7 rfl rfl ok7 h15 fs15 rfl rfl ok15 h16 fs16 rfl rfl ok16
  have g17 : FnsOk P w K mg base 108 ft17 := q16.2
  have g18 : FnsOk P w K mg base 111 ft18 := fns_put (k := 108) g17 h17 fs17 mf17 fu17 ok17 blt rz0
  have g19 : FnsOk P w K mg base 114 ft19 := fns_put (k := 111) g18 h18 fs18 mf18 fu18 ok18 blt rz0
  have g20 : FnsOk P w K mg base 117 ft20 := fns_put (k := 114) g19 h19 fs19 mf19 fu19 ok19 blt rz0
  have g21 : FnsOk P w K mg base 120 ft21 := fns_put (k := 117) g20 h20 fs20 mf20 fu20 ok20 blt rz0
  have q21 : GrAt P w K mg base 123 "graph_other" 1 otherG ∧ FnsOk P w K mg base 123 ft22 := fns_other (k := 120) g21 ⟨ft20, 0, at21_20⟩ blt h21 fs21 rfl rfl ok21
  have g22 : FnsOk P w K mg base 123 ft22 := q21.2
  exact ⟨q16.1, q21.1, g22⟩
end
set_option maxHeartbeats 0 in
theorem all_mk {l : PySem.W.OpenLaw} {w : World} {K : PySem.W.Frag} {h : Heap} {mg : Str → Option Value} {fa : Addr} (X : K.In h) (G : h.Ns mainGlobals mg) (hfa : mg "law" = some (.ref fa)) (nl : noList K = true)
    {f0 : Addr} {od0 an0 : Option Addr} {sl0 : Array (Option Value)} {oc0 kV0 dc0 pm0 cd0 ct0 : Value} (a0 : PySem.W.nsIn K mainGlobals "_law_width" = some (some (.ref f0))) (l0 : K.lookup f0 = some ⟨oc0, od0, .func (PySem.W.fnOf "_law_width" "_law_width" (defArgs st0) (defBody st0) (defScope st0) .none kV0 dc0 pm0 an0 cd0 ct0), sl0⟩) (c0 : PySem.W.codeIn K cd0 "_law_width" = true) (k0 : PySem.W.keepIn K (.ref f0) = true)
    {f1 : Addr} {od1 an1 : Option Addr} {sl1 : Array (Option Value)} {oc1 kV1 dc1 pm1 cd1 ct1 : Value} (a1 : PySem.W.nsIn K mainGlobals "_law_cell_at" = some (some (.ref f1))) (l1 : K.lookup f1 = some ⟨oc1, od1, .func (PySem.W.fnOf "_law_cell_at" "_law_cell_at" (defArgs st1) (defBody st1) (defScope st1) .none kV1 dc1 pm1 an1 cd1 ct1), sl1⟩) (c1 : PySem.W.codeIn K cd1 "_law_cell_at" = true) (k1 : PySem.W.keepIn K (.ref f1) = true)
    {f2 : Addr} {od2 an2 : Option Addr} {sl2 : Array (Option Value)} {oc2 kV2 dc2 pm2 cd2 ct2 : Value} (a2 : PySem.W.nsIn K mainGlobals "_law_stream" = some (some (.ref f2))) (l2 : K.lookup f2 = some ⟨oc2, od2, .func (PySem.W.fnOf "_law_stream" "_law_stream" (defArgs st2) (defBody st2) (defScope st2) .none kV2 dc2 pm2 an2 cd2 ct2), sl2⟩) (c2 : PySem.W.codeIn K cd2 "_law_stream" = true) (k2 : PySem.W.keepIn K (.ref f2) = true)
    {f3 : Addr} {od3 an3 : Option Addr} {sl3 : Array (Option Value)} {oc3 kV3 dc3 pm3 cd3 ct3 : Value} (a3 : PySem.W.nsIn K mainGlobals "_law_places" = some (some (.ref f3))) (l3 : K.lookup f3 = some ⟨oc3, od3, .func (PySem.W.fnOf "_law_places" "_law_places" (defArgs st3) (defBody st3) (defScope st3) .none kV3 dc3 pm3 an3 cd3 ct3), sl3⟩) (c3 : PySem.W.codeIn K cd3 "_law_places" = true) (k3 : PySem.W.keepIn K (.ref f3) = true)
    {f4 : Addr} {od4 an4 : Option Addr} {sl4 : Array (Option Value)} {oc4 kV4 dc4 pm4 cd4 ct4 : Value} (a4 : PySem.W.nsIn K mainGlobals "_law_base" = some (some (.ref f4))) (l4 : K.lookup f4 = some ⟨oc4, od4, .func (PySem.W.fnOf "_law_base" "_law_base" (defArgs st4) (defBody st4) (defScope st4) .none kV4 dc4 pm4 an4 cd4 ct4), sl4⟩) (c4 : PySem.W.codeIn K cd4 "_law_base" = true) (k4 : PySem.W.keepIn K (.ref f4) = true)
    {f5 : Addr} {od5 an5 : Option Addr} {sl5 : Array (Option Value)} {oc5 kV5 dc5 pm5 cd5 ct5 : Value} (a5 : PySem.W.nsIn K mainGlobals "_law_shorts" = some (some (.ref f5))) (l5 : K.lookup f5 = some ⟨oc5, od5, .func (PySem.W.fnOf "_law_shorts" "_law_shorts" (defArgs st5) (defBody st5) (defScope st5) .none kV5 dc5 pm5 an5 cd5 ct5), sl5⟩) (c5 : PySem.W.codeIn K cd5 "_law_shorts" = true) (k5 : PySem.W.keepIn K (.ref f5) = true)
    {f6 : Addr} {od6 an6 : Option Addr} {sl6 : Array (Option Value)} {oc6 kV6 dc6 pm6 cd6 ct6 : Value} (a6 : PySem.W.nsIn K mainGlobals "next_told" = some (some (.ref f6))) (l6 : K.lookup f6 = some ⟨oc6, od6, .func (PySem.W.fnOf "next_told" "next_told" (defArgs st6) (defBody st6) (defScope st6) .none kV6 dc6 pm6 an6 cd6 ct6), sl6⟩) (c6 : PySem.W.codeIn K cd6 "next_told" = true) (k6 : PySem.W.keepIn K (.ref f6) = true)
    {f7 : Addr} {od7 an7 : Option Addr} {sl7 : Array (Option Value)} {oc7 kV7 dc7 pm7 cd7 ct7 : Value} (a7 : PySem.W.nsIn K mainGlobals "node_of" = some (some (.ref f7))) (l7 : K.lookup f7 = some ⟨oc7, od7, .func (PySem.W.fnOf "node_of" "node_of" (defArgs st7) (defBody st7) (defScope st7) .none kV7 dc7 pm7 an7 cd7 ct7), sl7⟩) (c7 : PySem.W.codeIn K cd7 "node_of" = true) (k7 : PySem.W.keepIn K (.ref f7) = true)
    {f8 : Addr} {od8 an8 : Option Addr} {sl8 : Array (Option Value)} {oc8 kV8 dc8 pm8 cd8 ct8 : Value} (a8 : PySem.W.nsIn K mainGlobals "number_of" = some (some (.ref f8))) (l8 : K.lookup f8 = some ⟨oc8, od8, .func (PySem.W.fnOf "number_of" "number_of" (defArgs st8) (defBody st8) (defScope st8) .none kV8 dc8 pm8 an8 cd8 ct8), sl8⟩) (c8 : PySem.W.codeIn K cd8 "number_of" = true) (k8 : PySem.W.keepIn K (.ref f8) = true)
    {f9 : Addr} {od9 an9 : Option Addr} {sl9 : Array (Option Value)} {oc9 kV9 dc9 pm9 cd9 ct9 : Value} (a9 : PySem.W.nsIn K mainGlobals "graph_of" = some (some (.ref f9))) (l9 : K.lookup f9 = some ⟨oc9, od9, .func (PySem.W.fnOf "graph_of" "graph_of" (defArgs st9) (defBody st9) (defScope st9) .none kV9 dc9 pm9 an9 cd9 ct9), sl9⟩) (c9 : PySem.W.codeIn K cd9 "graph_of" = true) (k9 : PySem.W.keepIn K (.ref f9) = true)
    {f10 : Addr} {od10 an10 : Option Addr} {sl10 : Array (Option Value)} {oc10 kV10 dc10 pm10 cd10 ct10 : Value} (a10 : PySem.W.nsIn K mainGlobals "_law_spread" = some (some (.ref f10))) (l10 : K.lookup f10 = some ⟨oc10, od10, .func (PySem.W.fnOf "_law_spread" "_law_spread" (defArgs st10) (defBody st10) (defScope st10) .none kV10 dc10 pm10 an10 cd10 ct10), sl10⟩) (c10 : PySem.W.codeIn K cd10 "_law_spread" = true) (k10 : PySem.W.keepIn K (.ref f10) = true)
    {f11 : Addr} {od11 an11 : Option Addr} {sl11 : Array (Option Value)} {oc11 kV11 dc11 pm11 cd11 ct11 : Value} (a11 : PySem.W.nsIn K mainGlobals "_law_choices" = some (some (.ref f11))) (l11 : K.lookup f11 = some ⟨oc11, od11, .func (PySem.W.fnOf "_law_choices" "_law_choices" (defArgs st11) (defBody st11) (defScope st11) .none kV11 dc11 pm11 an11 cd11 ct11), sl11⟩) (c11 : PySem.W.codeIn K cd11 "_law_choices" = true) (k11 : PySem.W.keepIn K (.ref f11) = true)
    {f12 : Addr} {od12 an12 : Option Addr} {sl12 : Array (Option Value)} {oc12 kV12 dc12 pm12 cd12 ct12 : Value} (a12 : PySem.W.nsIn K mainGlobals "_law_fits" = some (some (.ref f12))) (l12 : K.lookup f12 = some ⟨oc12, od12, .func (PySem.W.fnOf "_law_fits" "_law_fits" (defArgs st12) (defBody st12) (defScope st12) .none kV12 dc12 pm12 an12 cd12 ct12), sl12⟩) (c12 : PySem.W.codeIn K cd12 "_law_fits" = true) (k12 : PySem.W.keepIn K (.ref f12) = true)
    {f13 : Addr} {od13 an13 : Option Addr} {sl13 : Array (Option Value)} {oc13 kV13 dc13 pm13 cd13 ct13 : Value} (a13 : PySem.W.nsIn K mainGlobals "_law_good" = some (some (.ref f13))) (l13 : K.lookup f13 = some ⟨oc13, od13, .func (PySem.W.fnOf "_law_good" "_law_good" (defArgs st13) (defBody st13) (defScope st13) .none kV13 dc13 pm13 an13 cd13 ct13), sl13⟩) (c13 : PySem.W.codeIn K cd13 "_law_good" = true) (k13 : PySem.W.keepIn K (.ref f13) = true)
    {f14 : Addr} {od14 an14 : Option Addr} {sl14 : Array (Option Value)} {oc14 kV14 dc14 pm14 cd14 ct14 : Value} (a14 : PySem.W.nsIn K mainGlobals "_law_written" = some (some (.ref f14))) (l14 : K.lookup f14 = some ⟨oc14, od14, .func (PySem.W.fnOf "_law_written" "_law_written" (defArgs st14) (defBody st14) (defScope st14) .none kV14 dc14 pm14 an14 cd14 ct14), sl14⟩) (c14 : PySem.W.codeIn K cd14 "_law_written" = true) (k14 : PySem.W.keepIn K (.ref f14) = true)
    {f15 : Addr} {od15 an15 : Option Addr} {sl15 : Array (Option Value)} {oc15 kV15 dc15 pm15 cd15 ct15 : Value} (a15 : PySem.W.nsIn K mainGlobals "number_under" = some (some (.ref f15))) (l15 : K.lookup f15 = some ⟨oc15, od15, .func (PySem.W.fnOf "number_under" "number_under" (defArgs st15) (defBody st15) (defScope st15) .none kV15 dc15 pm15 an15 cd15 ct15), sl15⟩) (c15 : PySem.W.codeIn K cd15 "number_under" = true) (k15 : PySem.W.keepIn K (.ref f15) = true)
    {f16 : Addr} {od16 an16 : Option Addr} {sl16 : Array (Option Value)} {oc16 kV16 dc16 pm16 cd16 ct16 : Value} (a16 : PySem.W.nsIn K mainGlobals "graph_under" = some (some (.ref f16))) (l16 : K.lookup f16 = some ⟨oc16, od16, .func (PySem.W.fnOf "graph_under" "graph_under" (defArgs st16) (defBody st16) (defScope st16) .none kV16 dc16 pm16 an16 cd16 ct16), sl16⟩) (c16 : PySem.W.codeIn K cd16 "graph_under" = true) (k16 : PySem.W.keepIn K (.ref f16) = true)
    {f17 : Addr} {od17 an17 : Option Addr} {sl17 : Array (Option Value)} {oc17 kV17 dc17 pm17 cd17 ct17 : Value} (a17 : PySem.W.nsIn K mainGlobals "_law_wholes" = some (some (.ref f17))) (l17 : K.lookup f17 = some ⟨oc17, od17, .func (PySem.W.fnOf "_law_wholes" "_law_wholes" (defArgs st17) (defBody st17) (defScope st17) .none kV17 dc17 pm17 an17 cd17 ct17), sl17⟩) (c17 : PySem.W.codeIn K cd17 "_law_wholes" = true) (k17 : PySem.W.keepIn K (.ref f17) = true)
    {f18 : Addr} {od18 an18 : Option Addr} {sl18 : Array (Option Value)} {oc18 kV18 dc18 pm18 cd18 ct18 : Value} (a18 : PySem.W.nsIn K mainGlobals "_law_end" = some (some (.ref f18))) (l18 : K.lookup f18 = some ⟨oc18, od18, .func (PySem.W.fnOf "_law_end" "_law_end" (defArgs st18) (defBody st18) (defScope st18) .none kV18 dc18 pm18 an18 cd18 ct18), sl18⟩) (c18 : PySem.W.codeIn K cd18 "_law_end" = true) (k18 : PySem.W.keepIn K (.ref f18) = true)
    {f19 : Addr} {od19 an19 : Option Addr} {sl19 : Array (Option Value)} {oc19 kV19 dc19 pm19 cd19 ct19 : Value} (a19 : PySem.W.nsIn K mainGlobals "_law_same" = some (some (.ref f19))) (l19 : K.lookup f19 = some ⟨oc19, od19, .func (PySem.W.fnOf "_law_same" "_law_same" (defArgs st19) (defBody st19) (defScope st19) .none kV19 dc19 pm19 an19 cd19 ct19), sl19⟩) (c19 : PySem.W.codeIn K cd19 "_law_same" = true) (k19 : PySem.W.keepIn K (.ref f19) = true)
    {f20 : Addr} {od20 an20 : Option Addr} {sl20 : Array (Option Value)} {oc20 kV20 dc20 pm20 cd20 ct20 : Value} (a20 : PySem.W.nsIn K mainGlobals "turned_end" = some (some (.ref f20))) (l20 : K.lookup f20 = some ⟨oc20, od20, .func (PySem.W.fnOf "turned_end" "turned_end" (defArgs st20) (defBody st20) (defScope st20) .none kV20 dc20 pm20 an20 cd20 ct20), sl20⟩) (c20 : PySem.W.codeIn K cd20 "turned_end" = true) (k20 : PySem.W.keepIn K (.ref f20) = true)
    {f21 : Addr} {od21 an21 : Option Addr} {sl21 : Array (Option Value)} {oc21 kV21 dc21 pm21 cd21 ct21 : Value} (a21 : PySem.W.nsIn K mainGlobals "graph_other" = some (some (.ref f21))) (l21 : K.lookup f21 = some ⟨oc21, od21, .func (PySem.W.fnOf "graph_other" "graph_other" (defArgs st21) (defBody st21) (defScope st21) .none kV21 dc21 pm21 an21 cd21 ct21), sl21⟩) (c21 : PySem.W.codeIn K cd21 "graph_other" = true) (k21 : PySem.W.keepIn K (.ref f21) = true)
    {f22 : Addr} {od22 an22 : Option Addr} {sl22 : Array (Option Value)} {oc22 kV22 dc22 pm22 cd22 ct22 : Value} (a22 : PySem.W.nsIn K mainGlobals "law" = some (some (.ref f22))) (l22 : K.lookup f22 = some ⟨oc22, od22, .func (PySem.W.fnOf "law" "law" (defArgs st22) (defBody st22) (defScope st22) .none kV22 dc22 pm22 an22 cd22 ct22), sl22⟩) (c22 : PySem.W.codeIn K cd22 "law" = true) (k22 : PySem.W.keepIn K (.ref f22) = true)
    (z_len : PySem.W.nsIn K mainGlobals "len" = some none)
    (z_list : PySem.W.nsIn K mainGlobals "list" = some none)
    (z_tuple : PySem.W.nsIn K mainGlobals "tuple" = some none)
    (z_sum : PySem.W.nsIn K mainGlobals "sum" = some none)
    (z_min : PySem.W.nsIn K mainGlobals "min" = some none)
    (z_max : PySem.W.nsIn K mainGlobals "max" = some none)
    (z_int : PySem.W.nsIn K mainGlobals "int" = some none)
    (z_any : PySem.W.nsIn K mainGlobals "any" = some none)
    (z_all : PySem.W.nsIn K mainGlobals "all" = some none)
    (z_sorted : PySem.W.nsIn K mainGlobals "sorted" = some none)
    (z_isinstance : PySem.W.nsIn K mainGlobals "isinstance" = some none)
    (z_range : PySem.W.nsIn K mainGlobals "range" = some none)
    (z_zip : PySem.W.nsIn K mainGlobals "zip" = some none)
    (z_enumerate : PySem.W.nsIn K mainGlobals "enumerate" = some none)
    (z_reversed : PySem.W.nsIn K mainGlobals "reversed" = some none)
    (z_str : PySem.W.nsIn K mainGlobals "str" = some none)
    (z_bool : PySem.W.nsIn K mainGlobals "bool" = some none)
    (z_set : PySem.W.nsIn K mainGlobals "set" = some none)
    (z_dict : PySem.W.nsIn K mainGlobals "dict" = some none)
    : ∃ fd : FuncData, (∀ (s : Shared) (v : Value), BindsTo s fd ⟨[v], []⟩ [("script", v)]) ∧ ∀ base : Heap, K.In base → base.Ns mainGlobals mg → FnOk l.prog w K mg base (L2.CX l.prog w) 126 fa fd ["script"] (spLaw K) := by
  have F0 := fun_mk (st := st0) l0 c0 k0
  have h0 : Has K mg "_law_width" st0 ["cell"] := ⟨f0, _, F0, PySem.W.mg_of X G a0, F0.binds (ps := ["cell"]) fun _ _ _ _ _ _ us hl => match us, hl with | [_], _ => rfl⟩
  have F1 := fun_mk (st := st1) l1 c1 k1
  have h1 : Has K mg "_law_cell_at" st1 ["script", "k"] := ⟨f1, _, F1, PySem.W.mg_of X G a1, F1.binds (ps := ["script", "k"]) fun _ _ _ _ _ _ us hl => match us, hl with | [_, _], _ => rfl⟩
  have F2 := fun_mk (st := st2) l2 c2 k2
  have h2 : Has K mg "_law_stream" st2 ["cell", "many"] := ⟨f2, _, F2, PySem.W.mg_of X G a2, F2.binds (ps := ["cell", "many"]) fun _ _ _ _ _ _ us hl => match us, hl with | [_, _], _ => rfl⟩
  have F3 := fun_mk (st := st3) l3 c3 k3
  have h3 : Has K mg "_law_places" st3 ["cell", "width"] := ⟨f3, _, F3, PySem.W.mg_of X G a3, F3.binds (ps := ["cell", "width"]) fun _ _ _ _ _ _ us hl => match us, hl with | [_, _], _ => rfl⟩
  have F4 := fun_mk (st := st4) l4 c4 k4
  have h4 : Has K mg "_law_base" st4 ["cell", "width"] := ⟨f4, _, F4, PySem.W.mg_of X G a4, F4.binds (ps := ["cell", "width"]) fun _ _ _ _ _ _ us hl => match us, hl with | [_, _], _ => rfl⟩
  have F5 := fun_mk (st := st5) l5 c5 k5
  have h5 : Has K mg "_law_shorts" st5 ["cells", "many"] := ⟨f5, _, F5, PySem.W.mg_of X G a5, F5.binds (ps := ["cells", "many"]) fun _ _ _ _ _ _ us hl => match us, hl with | [_, _], _ => rfl⟩
  have F6 := fun_mk (st := st6) l6 c6 k6
  have h6 : Has K mg "next_told" st6 ["row", "place"] := ⟨f6, _, F6, PySem.W.mg_of X G a6, F6.binds (ps := ["row", "place"]) fun _ _ _ _ _ _ us hl => match us, hl with | [_, _], _ => rfl⟩
  have F7 := fun_mk (st := st7) l7 c7 k7
  have h7 : Has K mg "node_of" st7 ["made", "place", "no", "yes"] := ⟨f7, _, F7, PySem.W.mg_of X G a7, F7.binds (ps := ["made", "place", "no", "yes"]) fun _ _ _ _ _ _ us hl => match us, hl with | [_, _, _, _], _ => rfl⟩
  have F8 := fun_mk (st := st8) l8 c8 k8
  have h8 : Has K mg "number_of" st8 ["made", "rows", "place"] := ⟨f8, _, F8, PySem.W.mg_of X G a8, F8.binds (ps := ["made", "rows", "place"]) fun _ _ _ _ _ _ us hl => match us, hl with | [_, _, _], _ => rfl⟩
  have F9 := fun_mk (st := st9) l9 c9 k9
  have h9 : Has K mg "graph_of" st9 ["heap"] := ⟨f9, _, F9, PySem.W.mg_of X G a9, F9.binds (ps := ["heap"]) fun _ _ _ _ _ _ us hl => match us, hl with | [_], _ => rfl⟩
  have F10 := fun_mk (st := st10) l10 c10 k10
  have h10 : Has K mg "_law_spread" st10 ["short", "places", "base"] := ⟨f10, _, F10, PySem.W.mg_of X G a10, F10.binds (ps := ["short", "places", "base"]) fun _ _ _ _ _ _ us hl => match us, hl with | [_, _, _], _ => rfl⟩
  have F11 := fun_mk (st := st11) l11 c11 k11
  have h11 : Has K mg "_law_choices" st11 ["many"] := ⟨f11, _, F11, PySem.W.mg_of X G a11, F11.binds (ps := ["many"]) fun _ _ _ _ _ _ us hl => match us, hl with | [_], _ => rfl⟩
  have F12 := fun_mk (st := st12) l12 c12 k12
  have h12 : Has K mg "_law_fits" st12 ["short", "choice"] := ⟨f12, _, F12, PySem.W.mg_of X G a12, F12.binds (ps := ["short", "choice"]) fun _ _ _ _ _ _ us hl => match us, hl with | [_, _], _ => rfl⟩
  have F13 := fun_mk (st := st13) l13 c13 k13
  have h13 : Has K mg "_law_good" st13 ["shorts", "many"] := ⟨f13, _, F13, PySem.W.mg_of X G a13, F13.binds (ps := ["shorts", "many"]) fun _ _ _ _ _ _ us hl => match us, hl with | [_, _], _ => rfl⟩
  have F14 := fun_mk (st := st14) l14 c14 k14
  have h14 : Has K mg "_law_written" st14 ["choice", "over"] := ⟨f14, _, F14, PySem.W.mg_of X G a14, F14.binds (ps := ["choice", "over"]) fun _ _ _ _ _ _ us hl => match us, hl with | [_, _], _ => rfl⟩
  have F15 := fun_mk (st := st15) l15 c15 k15
  have h15 : Has K mg "number_under" st15 ["made", "seen", "nodes", "number", "over"] := ⟨f15, _, F15, PySem.W.mg_of X G a15, F15.binds (ps := ["made", "seen", "nodes", "number", "over"]) fun _ _ _ _ _ _ us hl => match us, hl with | [_, _, _, _, _], _ => rfl⟩
  have F16 := fun_mk (st := st16) l16 c16 k16
  have h16 : Has K mg "graph_under" st16 ["graph", "over"] := ⟨f16, _, F16, PySem.W.mg_of X G a16, F16.binds (ps := ["graph", "over"]) fun _ _ _ _ _ _ us hl => match us, hl with | [_, _], _ => rfl⟩
  have F17 := fun_mk (st := st17) l17 c17 k17
  have h17 : Has K mg "_law_wholes" st17 ["graph"] := ⟨f17, _, F17, PySem.W.mg_of X G a17, F17.binds (ps := ["graph"]) fun _ _ _ _ _ _ us hl => match us, hl with | [_], _ => rfl⟩
  have F18 := fun_mk (st := st18) l18 c18 k18
  have h18 : Has K mg "_law_end" st18 ["graph", "letter"] := ⟨f18, _, F18, PySem.W.mg_of X G a18, F18.binds (ps := ["graph", "letter"]) fun _ _ _ _ _ _ us hl => match us, hl with | [_, _], _ => rfl⟩
  have F19 := fun_mk (st := st19) l19 c19 k19
  have h19 : Has K mg "_law_same" st19 ["found", "due", "where"] := ⟨f19, _, F19, PySem.W.mg_of X G a19, F19.binds (ps := ["found", "due", "where"]) fun _ _ _ _ _ _ us hl => match us, hl with | [_, _, _], _ => rfl⟩
  have F20 := fun_mk (st := st20) l20 c20 k20
  have h20 : Has K mg "turned_end" st20 ["number"] := ⟨f20, _, F20, PySem.W.mg_of X G a20, F20.binds (ps := ["number"]) fun _ _ _ _ _ _ us hl => match us, hl with | [_], _ => rfl⟩
  have F21 := fun_mk (st := st21) l21 c21 k21
  have h21 : Has K mg "graph_other" st21 ["graph"] := ⟨f21, _, F21, PySem.W.mg_of X G a21, F21.binds (ps := ["graph"]) fun _ _ _ _ _ _ us hl => match us, hl with | [_], _ => rfl⟩
  have F22 := fun_mk (st := st22) l22 c22 k22
  have h22 : Has K mg "law" st22 ["script"] := ⟨f22, _, F22, PySem.W.mg_of X G a22, F22.binds (ps := ["script"]) fun _ _ _ _ _ _ us hl => match us, hl with | [_], _ => rfl⟩
  have blt : Blt mg := fun f hf => by
    simp only [List.mem_cons, List.mem_nil_iff, or_false] at hf
    rcases hf with rfl | rfl | rfl | rfl | rfl | rfl | rfl | rfl | rfl | rfl | rfl | rfl | rfl | rfl | rfl | rfl | rfl | rfl | rfl
    · exact PySem.W.mg_none_of X G z_len
    · exact PySem.W.mg_none_of X G z_list
    · exact PySem.W.mg_none_of X G z_tuple
    · exact PySem.W.mg_none_of X G z_sum
    · exact PySem.W.mg_none_of X G z_min
    · exact PySem.W.mg_none_of X G z_max
    · exact PySem.W.mg_none_of X G z_int
    · exact PySem.W.mg_none_of X G z_any
    · exact PySem.W.mg_none_of X G z_all
    · exact PySem.W.mg_none_of X G z_sorted
    · exact PySem.W.mg_none_of X G z_isinstance
    · exact PySem.W.mg_none_of X G z_range
    · exact PySem.W.mg_none_of X G z_zip
    · exact PySem.W.mg_none_of X G z_enumerate
    · exact PySem.W.mg_none_of X G z_reversed
    · exact PySem.W.mg_none_of X G z_str
    · exact PySem.W.mg_none_of X G z_bool
    · exact PySem.W.mg_none_of X G z_set
    · exact PySem.W.mg_none_of X G z_dict
  have e := hfa.symm.trans (PySem.W.mg_of X G a22)
  cases e
  refine ⟨_, fun s v => .of_eq rfl, fun base _ _ => have q := fns (P := l.prog) (w := w) (K := K) (mg := mg) (base := base) h0 h1 h2 h3 h4 h5 h6 h7 h8 h9 h10 h11 h12 h13 h14 h15 h16 h17 h18 h19 h20 h21 blt; law_one (law_fn (k := 123) F22 fs22 rfl ok22 blt q.2.2 q.1 q.2.1) nl rfl law_true⟩
end K14
open PySem PySem.W PyProof.Rows
set_option maxHeartbeats 0 in
theorem PySem.Challenge.cw_throng_k14_under_and_other_holds : PySem.Challenge.rw_throng_k14_under_and_other.Holds := by
  w_on; o_law; k_head; (case hw => w_witness2)
  k_fill
  refine L2.walk_of (l := PySem.Challenge.rw_throng_k14_under_and_other) (n := 63) (k := 126) (x := "script") (CX := fun w => L2.CX PySem.Challenge.rw_throng_k14_under_and_other.prog w) (sp := fun w => En.spLaw _) rfl (by decide) rfl ⟨rfl, by decide, by decide⟩ (fun w h Y => PySem.W.kIn_of Y) ?F (fun _ _ a ns hl hO hS => ⟨a, ns, rfl, hS, hl, hO, fun _ => rfl⟩) (fun _ _ _ _ _ h => En.cx_end h)
  case F =>
    intro w mg fa h KX G hmg
    refine' K14.all_mk KX G hmg ?nl ?a0 ?l0 ?c0 ?k0 ?a1 ?l1 ?c1 ?k1 ?a2 ?l2 ?c2 ?k2 ?a3 ?l3 ?c3 ?k3 ?a4 ?l4 ?c4 ?k4 ?a5 ?l5 ?c5 ?k5 ?a6 ?l6 ?c6 ?k6 ?a7 ?l7 ?c7 ?k7 ?a8 ?l8 ?c8 ?k8 ?a9 ?l9 ?c9 ?k9 ?a10 ?l10 ?c10 ?k10 ?a11 ?l11 ?c11 ?k11 ?a12 ?l12 ?c12 ?k12 ?a13 ?l13 ?c13 ?k13 ?a14 ?l14 ?c14 ?k14 ?a15 ?l15 ?c15 ?k15 ?a16 ?l16 ?c16 ?k16 ?a17 ?l17 ?c17 ?k17 ?a18 ?l18 ?c18 ?k18 ?a19 ?l19 ?c19 ?k19 ?a20 ?l20 ?c20 ?k20 ?a21 ?l21 ?c21 ?k21 ?a22 ?l22 ?c22 ?k22  ?z_len ?z_list ?z_tuple ?z_sum ?z_min ?z_max ?z_int ?z_any ?z_all ?z_sorted ?z_isinstance ?z_range ?z_zip ?z_enumerate ?z_reversed ?z_str ?z_bool ?z_set ?z_dict
    (case a0 => k_is); (case l0 => k_is); (case c0 => k_is); (case k0 => k_is); (case a1 => k_is); (case l1 => k_is); (case c1 => k_is); (case k1 => k_is); (case a2 => k_is); (case l2 => k_is); (case c2 => k_is); (case k2 => k_is); (case a3 => k_is); (case l3 => k_is); (case c3 => k_is); (case k3 => k_is); (case a4 => k_is); (case l4 => k_is); (case c4 => k_is); (case k4 => k_is); (case a5 => k_is); (case l5 => k_is); (case c5 => k_is); (case k5 => k_is); (case a6 => k_is); (case l6 => k_is); (case c6 => k_is); (case k6 => k_is); (case a7 => k_is); (case l7 => k_is); (case c7 => k_is); (case k7 => k_is); (case a8 => k_is); (case l8 => k_is); (case c8 => k_is); (case k8 => k_is); (case a9 => k_is); (case l9 => k_is); (case c9 => k_is); (case k9 => k_is); (case a10 => k_is); (case l10 => k_is); (case c10 => k_is); (case k10 => k_is); (case a11 => k_is); (case l11 => k_is); (case c11 => k_is); (case k11 => k_is); (case a12 => k_is); (case l12 => k_is); (case c12 => k_is); (case k12 => k_is); (case a13 => k_is); (case l13 => k_is); (case c13 => k_is); (case k13 => k_is); (case a14 => k_is); (case l14 => k_is); (case c14 => k_is); (case k14 => k_is); (case a15 => k_is); (case l15 => k_is); (case c15 => k_is); (case k15 => k_is); (case a16 => k_is); (case l16 => k_is); (case c16 => k_is); (case k16 => k_is); (case a17 => k_is); (case l17 => k_is); (case c17 => k_is); (case k17 => k_is); (case a18 => k_is); (case l18 => k_is); (case c18 => k_is); (case k18 => k_is); (case a19 => k_is); (case l19 => k_is); (case c19 => k_is); (case k19 => k_is); (case a20 => k_is); (case l20 => k_is); (case c20 => k_is); (case k20 => k_is); (case a21 => k_is); (case l21 => k_is); (case c21 => k_is); (case k21 => k_is); (case a22 => k_is); (case l22 => k_is); (case c22 => k_is); (case k22 => k_is); (case z_len => k_is); (case z_list => k_is); (case z_tuple => k_is); (case z_sum => k_is); (case z_min => k_is); (case z_max => k_is); (case z_int => k_is); (case z_any => k_is); (case z_all => k_is); (case z_sorted => k_is); (case z_isinstance => k_is); (case z_range => k_is); (case z_zip => k_is); (case z_enumerate => k_is); (case z_reversed => k_is); (case z_str => k_is); (case z_bool => k_is); (case z_set => k_is); (case z_dict => k_is)
    (case nl => first | kernel_rfl | rfl)
