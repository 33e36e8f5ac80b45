import PyProof.Rows.All
import Wide.All
import OpenK.AllK
import Wide.FinOn
import HandS.ForMost
import HandS.ForExc
import HandS.TryMany
import HandS.IsInst
import HandS.Flow
import HandS.Deep
import HandS.TupAny
import HandS.More
import HandS.CallSlots
import HandS.Wide
import PyProof.FactsAll.NoneType_1
import HandS.TupLen
import HandS.HeadHook3
import KE.KDictList
import HandS.Defaults
import HandS.StrMore
import HandS.Words
import HandS.WordsExc
import HandS.Head0
import HandS.Head1
import HandS.Head2
import HandS.HeadEnd
import HandS.HeadHook1
import HandS.HeadHook2
import HandS.ExcInit
import HandS.ExcField
import HandS.ExcOwn
import KE.KExcSuper
import HandS.DictComp
import KE.GoesEnum
import HandS.Zip
import KE.KDictSum
import PyProof.Rows.SortShellAny
import HandS.Style
import HandS.TryOnly
import HandS.TupLe
import PyProof.Rows.TupDisplay
import HandS.TupMul
import KE.DataMinMax
import HandS.SetFor
import HandS.Strs
import HandS.SetBool
import HandS.Property
import HandS.MakeKwOnly
import HandS.OwnEq
import HandS.DictEq
import KE.KDictOf
import PyProof.StrLawsIn
import HandS.Evl
import PySem.Challenge.RW_sealedtalk_k06_whole_terms_and_wordings
set_option Elab.async false
set_option linter.all false
set_option maxRecDepth 100000
set_option maxHeartbeats 0
/-! GD1: dicts whose keys are texts, ints and nested tuples of them. -/
namespace GD
open PySem
open Sem (wp)
mutual
/-- what may be a key -/
def hk : PyData → Bool
  | .int _ => true
  | .str x => PyData.strOk x
  | .tuple xs => hks xs
  | .none => true
  | .bool _ => false
  | .list _ => false
  | .dict _ => false
def hks : List PyData → Bool
  | [] => true
  | x :: xs => hk x && hks xs
end
mutual
def hsh (w : World) : PyData → Int
  | .int i => hashInt i
  | .str x => hashStr w x
  | .tuple xs => reduceHash (Builtin.Tuple.tupleHashOf (hshs w xs))
  | .none => 4238894112
  | .bool _ => 0
  | .list _ => 0
  | .dict _ => 0
def hshs (w : World) : List PyData → List Int
  | [] => []
  | x :: xs => hsh w x :: hshs w xs
end
theorem hshs_map (w : World) : ∀ xs : List PyData, hshs w xs = xs.map (hsh w)
  | [] => by simp only [hshs, List.map_nil]
  | x :: xs => by simp only [hshs, List.map_cons, hshs_map w xs]
theorem hks_all : ∀ {xs : List PyData}, hks xs = true → ∀ x ∈ xs, hk x = true
  | [], _, _, h => nomatch h
  | y :: ys, z, x, h => by
    have q : hk y = true ∧ hks ys = true := by simpa only [hks, Bool.and_eq_true] using z
    rcases List.mem_cons.mp h with rfl | h
    · exact q.1
    · exact hks_all q.2 x h
mutual
theorem lay_of : ∀ d : PyData, hk d = true → d.canLay0 = true
  | .int _, _ => by simp only [PyData.canLay0]
  | .str x, h => by simpa only [hk, PyData.canLay0] using h
  | .tuple xs, h => by
    simp only [PyData.canLay0]
    exact lays_of xs (by simpa only [hk] using h)
  | .none, _ => by simp only [PyData.canLay0]
  | .bool _, h => by simp [hk] at h
  | .list _, h => by simp [hk] at h
  | .dict _, h => by simp [hk] at h
theorem lays_of : ∀ xs : List PyData, hks xs = true → PyData.canLayAll0 xs = true
  | [], _ => by simp only [PyData.canLayAll0]
  | x :: xs, h => by
    have q : hk x = true ∧ hks xs = true := by simpa only [hks, Bool.and_eq_true] using h
    simp only [PyData.canLayAll0, lay_of x q.1, lays_of xs q.2, Bool.and_self]
end
mutual
theorem eqv_imp : ∀ d e : PyData, hk d = true → hk e = true → PyData.eqv d e = true → d = e
  | .int i, e, _, h, z => by cases e <;> simp_all [PyData.eqv, hk]
  | .str x, e, _, h, z => by cases e <;> simp_all [PyData.eqv, hk]
  | .tuple xs, .tuple ys, h, h2, z => by
    rw [eqvs_imp xs ys (by simpa only [hk] using h) (by simpa only [hk] using h2) (by simpa only [PyData.eqv] using z)]
  | .tuple xs, .none, _, _, z => by simp [PyData.eqv] at z
  | .tuple xs, .bool _, _, _, z => by simp [PyData.eqv] at z
  | .tuple xs, .int _, _, _, z => by simp [PyData.eqv] at z
  | .tuple xs, .str _, _, _, z => by simp [PyData.eqv] at z
  | .tuple xs, .list _, _, _, z => by simp [PyData.eqv] at z
  | .tuple xs, .dict _, _, _, z => by simp [PyData.eqv] at z
  | .none, e, _, h, z => by cases e <;> simp_all [PyData.eqv, hk]
  | .bool _, _, h, _, _ => by simp [hk] at h
  | .list _, _, h, _, _ => by simp [hk] at h
  | .dict _, _, h, _, _ => by simp [hk] at h
theorem eqvs_imp : ∀ xs ys : List PyData, hks xs = true → hks ys = true → PyData.eqvAll xs ys = true → xs = ys
  | [], [], _, _, _ => rfl
  | [], _ :: _, _, _, h => by simp [PyData.eqvAll] at h
  | _ :: _, [], _, _, h => by simp [PyData.eqvAll] at h
  | x :: xs, y :: ys, h, h2, z => by
    have q : hk x = true ∧ hks xs = true := by simpa only [hks, Bool.and_eq_true] using h
    have q2 : hk y = true ∧ hks ys = true := by simpa only [hks, Bool.and_eq_true] using h2
    have z2 : PyData.eqv x y = true ∧ PyData.eqvAll xs ys = true := by simpa only [PyData.eqvAll, Bool.and_eq_true] using z
    rw [eqv_imp x y q.1 q2.1 z2.1, eqvs_imp xs ys q.2 q2.2 z2.2]
end
noncomputable section
open Classical
theorem eqv_dec {d e : PyData} (h : hk d = true) (h2 : hk e = true) : PyData.eqv d e = decide (d = e) := by
  by_cases z : d = e
  · subst z
    rw [decide_eq_true rfl]
    exact SeqAt.eqv_refl d (lay_of d h)
  · rw [decide_eq_false z]
    cases q : PyData.eqv d e with
    | false => rfl
    | true => exact absurd (eqv_imp d e h h2 q) z
open PySem.Spec PyProof.Rows in
theorem none_is (s : Shared) : s.TypeIs .none "NoneType" := rfl
open PySem.Spec PyProof.Rows in
theorem wpAny_pyHash_none {prog : Program} {w : World} {A : Around} {E : Value → Shared → Prop} {s : Shared} {Q : Int → Shared → Prop} (h : Q 4238894112 { s with toks := s.toks + 1 }) :
    wpAny (model prog w) A (pyHash .none) Q E s := by
  unfold pyHash
  have hv : [Value.none].any Value.onHeap = false := rfl
  first | unfold pyHashByItsType | skip
  refine wpAny_bind ?_
  rw [cRoomFor, if_neg (by rw [hv]; exact Bool.false_ne_true)]; refine wpAny_pure ?_
  refine wpAny_bind (wpAny_specialOf (none_is s) PySem.F.slot_NoneType_hash.lookup ?_)
  show wpAny _ _ (if (some (Value.builtin "NoneType.__hash__") == some Value.none) = true then _ else _) Q E s
  rw [if_neg (by rw [beq_builtin_none]; exact Bool.false_ne_true)]
  refine wpAny_bind (wpAny_specialOf (none_is s) PySem.F.slot_NoneType_hash.lookup ?_)
  show wpAny _ _ (callSpecialIfBoundUnlessNone? .none "__hash__" _ >>= _) Q E s
  refine wpAny_bind (wpAny_callSpecialIfBoundUnlessNone?_slot (none_is s) PySem.F.slot_NoneType_hash
    (wpAny_call_entry PySem.F.slot_NoneType_hash (none_is s) PySem.F.entry_NoneType_hash ?_ (PySem.F.args_NoneType_hash_1 _)))
  show wpAny _ _ (retInt 0xFCA86420) _ _ s
  refine wpAny_ret_mkInt ?_
  show wpAny _ _ (if (decide (-(2 : Int) ^ 63 ≤ 4238894112) && decide ((4238894112 : Int) < 2 ^ 63)) = true then _ else _) Q E _
  rw [if_pos (by decide)]
  exact wpAny_pure (by rw [if_neg (by decide)]; exact h)
/-- the value v is the key d -/
structure KeyAt (h : Heap) (d : PyData) (v : Value) : Prop where
  hk : hk d = true
  dp : d.depth ≤ 8
  rd : ∃ as, Reads h v d as
theorem dep_in {xs : List PyData} : ∀ {x : PyData}, x ∈ xs → x.depth ≤ PyData.depthAll xs := by
  induction xs with
  | nil => intro x h; cases h
  | cons y ys ih =>
    intro x h
    simp only [PyData.depthAll]
    rcases List.mem_cons.mp h with rfl | h
    · exact Nat.le_max_left _ _
    · exact Nat.le_trans (ih h) (Nat.le_max_right _ _)
section
variable {prog : Program} {w : World}
def HashP (prog : Program) (w : World) (d : PyData) : Prop := ∀ (A : Around) (E : Value → Shared → Prop) (s : Shared) (v : Value) (as : List Addr) (Q : Int → Shared → Prop), hk d = true → A.units + d.depth < cLine → Reads s.heap v d as → (∀ n, Q (hsh w d) { s with toks := s.toks + n }) →
  wpAny (model prog w) A (pyHash v) Q E s
theorem hash_tuple {xs : List PyData} (ih : ∀ x ∈ xs, HashP prog w x) : HashP prog w (.tuple xs) := by
  intro A E s v as Q hh hu hr h
  cases hr with
  | @tuple a o vs n _ _ ho hc hd hi =>
  have hT : s.TypeIs (.ref a) "tuple" := ⟨o, ho, hc⟩
  have hx : hks xs = true := by simpa only [hk] using hh
  have hu' : A.units + (PyData.depthAll xs + 1) < cLine := by simpa only [PyData.depth] using hu
  unfold pyHash
  first | unfold pyHashByItsType | skip
  first | refine wpAny_bind (wpAny_cRoomFor_or (.inr (by omega)) ?_) | skip
  refine wpAny_bind (wpAny_specialOf hT F.slot_tuple_hash.lookup ?_)
  show wpAny _ _ (if (some (Value.builtin "tuple.__hash__") == some Value.none) = true then _ else _) Q E s
  rw [if_neg (by rw [beq_builtin_none]; exact Bool.false_ne_true)]
  refine wpAny_bind (wpAny_specialOf hT F.slot_tuple_hash.lookup ?_)
  show wpAny _ _ (callSpecialIfBoundUnlessNone? (.ref a) "__hash__" _ >>= _) Q E s
  refine wpAny_bind (wpAny_callSpecialIfBoundUnlessNone?_slot hT F.slot_tuple_hash (wpAny_call_entry F.slot_tuple_hash hT F.entry_tuple_hash ?_ (F.args_tuple_hash_1 _)))
  show wpAny _ _ (Builtin.Tuple.tupleItemsOf (.ref a) >>= _) _ _ s
  refine wpAny_bind (wpAny_tupleItemsOf ho hd ?_)
  refine wpAny_bind ?_
  rw [← Array.forIn_toList]
  refine wpAny_forIn_list _
    (fun rest (b : Array Int) s' => ∃ done left bs m, xs = done ++ left ∧ ReadsAll s.heap rest left bs ∧ b.toList = done.map (hsh w) ∧ s' = { s with toks := s.toks + m })
    _ ?_ ?_ _ _ ⟨[], xs, _, 0, rfl, hi, rfl, rfl⟩
  · rintro x rest b s' ⟨done, left, bs, m, hxs, hl, hb, rfl⟩
    cases hl with
    | @cons _ _ k ks a1 b1 h1 hl' =>
      have hm : k ∈ xs := by rw [hxs]; simp
      have hdk := dep_in hm
      refine wpAny_bind (ih k hm _ _ _ _ _ _ (hks_all hx k hm) (by show A.units + 1 + k.depth < cLine; omega) h1 fun m' => ?_)
      have fin : ∃ done' left' bs' m2, xs = done' ++ left' ∧ ReadsAll s.heap rest left' bs' ∧ (b.push (hsh w k)).toList = done'.map (hsh w) ∧ ({ ({ s with toks := s.toks + m } : Shared) with toks := ({ s with toks := s.toks + m } : Shared).toks + m' } : Shared) = { s with toks := s.toks + m2 } :=
        ⟨done ++ [k], ks, b1, m + m', by rw [hxs]; simp, hl', by simp [hb], by simp [Nat.add_assoc]⟩
      first
        | exact wpAny_pure fin
        | exact wpAny_bind (wpAny_pure (wpAny_pure fin))
  · rintro b s' ⟨done, left, bs, m, hxs, hl, hb, rfl⟩
    cases hl
    rw [List.append_nil] at hxs
    subst hxs
    show wpAny _ _ (retInt (Builtin.Tuple.tupleHashOf b.toList)) _ _ _
    rw [hb]
    refine wpAny_ret_mkInt ?_
    have e : hsh w (.tuple xs) = reduceHash (Builtin.Tuple.tupleHashOf (xs.map (hsh w))) := by simp only [hsh, hshs_map]
    rw [e] at h
    show wpAny _ _ (if (decide (-(2 : Int) ^ 63 ≤ Builtin.Tuple.tupleHashOf (xs.map (hsh w))) && decide (Builtin.Tuple.tupleHashOf (xs.map (hsh w)) < 2 ^ 63)) = true then _ else _) Q E _
    unfold reduceHash at h
    by_cases hr : (decide (-(2 : Int) ^ 63 ≤ Builtin.Tuple.tupleHashOf (xs.map (hsh w))) && decide (Builtin.Tuple.tupleHashOf (xs.map (hsh w)) < 2 ^ 63)) = true
    · rw [if_pos hr]
      rw [if_pos hr] at h
      exact wpAny_pure (by simpa [Nat.add_assoc] using h (m + 1))
    · rw [if_neg hr]
      rw [if_neg hr] at h
      exact wpAny_bind (wpAny_rule (wpAny_pure (by simpa [Nat.add_assoc] using h (m + 1))))
mutual
theorem hash_one : ∀ d : PyData, HashP prog w d
  | .int i => fun A E s v as Q _ _ hr h => by
    cases hr
    exact wpAny_pyHash_int (by have := h 1; simp only [hsh] at this; exact this)
  | .str x => fun A E s v as Q _ _ hr h => by
    cases hr
    exact wpAny_pyHash_str (by have := h 1; simp only [hsh] at this; exact this)
  | .tuple xs => hash_tuple (hash_each xs)
  | .none => fun A E s v as Q _ _ hr h => by
    cases hr
    exact wpAny_pyHash_none (by have := h 1; simp only [hsh] at this; exact this)
  | .bool _ => fun A E s v as Q h => by simp [hk] at h
  | .list _ => fun A E s v as Q h => by simp [hk] at h
  | .dict _ => fun A E s v as Q h => by simp [hk] at h
theorem hash_each : ∀ xs : List PyData, ∀ x ∈ xs, HashP prog w x
  | [], x, h => nomatch h
  | y :: ys, x, h => by
    rcases List.mem_cons.mp h with e | h
    · rw [e]; exact hash_one y
    · exact hash_each ys x h
end
theorem KeyAt.hash {A : Around} {E : Value → Shared → Prop} {s : Shared} {d : PyData} {v : Value} {Q : Int → Shared → Prop} (k : KeyAt s.heap d v) (hu : A.units + 8 < cLine) (h : ∀ n, Q (hsh w d) { s with toks := s.toks + n }) : wpAny (model prog w) A (pyHash v) Q E s := by
  obtain ⟨as, r⟩ := k.rd
  have := k.dp
  exact hash_one d A E s v as Q k.hk (by omega) r h
theorem KeyAt.eq {A : Around} {E : Value → Shared → Prop} {s : Shared} {d e : PyData} {v u : Value} {Q : Bool → Shared → Prop} (k : KeyAt s.heap d v) (j : KeyAt s.heap e u) (hu : A.units + 8 < cLine) (h : Q (decide (d = e)) s) : wpAny (model prog w) A (eqBool v u) Q E s := by
  obtain ⟨as, r⟩ := k.rd
  obtain ⟨bs, t⟩ := j.rd
  have := k.dp
  refine SeqAt.eqAt_reads d e A s v u as bs r t (lay_of d k.hk) (lay_of e j.hk) (by omega) prog w E Q ?_
  rw [eqv_dec k.hk j.hk]
  exact h
theorem KeyAt.inj {h : Heap} {d e : PyData} {v : Value} (k : KeyAt h d v) (j : KeyAt h e v) : d = e := by
  obtain ⟨as, r⟩ := k.rd
  obtain ⟨bs, t⟩ := j.rd
  exact SeqAt.Reads.unique d e v as bs (lay_of d k.hk) r t
end
end
end GD
/-! GD2: a key is found. -/
namespace GD
open PySem
open Sem (wp)
noncomputable section
open Classical
section
variable {prog : Program} {w : World}
def QuietP (prog : Program) (w : World) (d : PyData) : Prop := ∀ (n : Nat) (A : Around) (E : Value → Shared → Prop) (s : Shared) (v : Value) (as : List Addr) (Q : Bool → Shared → Prop), hk d = true → d.depth ≤ n → Reads s.heap v d as → Q true s → wpAny (model prog w) A (eqIsQuiet n v) Q E s
theorem quiet_tuple {xs : List PyData} (ih : ∀ x ∈ xs, QuietP prog w x) : QuietP prog w (.tuple xs) := by
  intro n A E s v as Q hh hn hr h
  cases hr with
  | @tuple a o vs m _ _ ho hc hd hi =>
  have hT : s.TypeIs (.ref a) "tuple" := ⟨o, ho, hc⟩
  have hx : hks xs = true := by simpa only [hk] using hh
  have hn' : PyData.depthAll xs + 1 ≤ n := by simpa only [PyData.depth] using hn
  cases n with
  | zero => omega
  | succ n =>
  unfold eqIsQuiet
  refine wpAny_bind (wpAny_specialOf hT F.slot_tuple_eq.lookup ?_)
  show wpAny _ _ (isInstance (.ref a) (.type "tuple") >>= _) _ _ s
  refine wpAny_bind (wpAny_isInstance hT isSubtype_tuple_tuple ?_)
  simp only [Bool.not_true, Bool.false_eq_true, if_false]
  refine wpAny_bind (wpAny_seqItems ho hd ?_)
  refine wpAny_bind ?_
  show wpAny _ _ (forIn vs _ _) _ _ s
  rw [← Array.forIn_toList]
  refine wpAny_forIn_list _ (fun rest r s' => r.1 = none ∧ s' = s ∧ ∃ left bs, (∀ x ∈ left, x ∈ xs) ∧ ReadsAll s.heap rest left bs) _ ?_ ?_ _ _ ⟨rfl, rfl, xs, _, fun _ z => z, hi⟩
  · rintro x rest r s' ⟨hr, rfl, left, bs, hl, hra⟩
    cases hra with
    | @cons _ _ k ks a1 b1 h1 hl' =>
      have hm : k ∈ xs := hl k List.mem_cons_self
      have hdk := dep_in hm
      refine wpAny_bind (ih k hm n _ _ _ _ _ _ (hks_all hx k hm) (by omega) h1 ?_)
      simp only [Bool.not_true, Bool.false_eq_true, if_false]
      exact wpAny_pure ⟨rfl, rfl, ks, b1, fun z hz => hl z (List.mem_cons_of_mem _ hz), hl'⟩
  · rintro ⟨r1, r2⟩ s' ⟨hr, rfl, _⟩
    simp only at hr
    subst hr
    exact wpAny_pure h
mutual
theorem quiet_one : ∀ d : PyData, QuietP prog w d
  | .int i => fun n A E s v as Q _ _ hr h => by
    cases hr
    rw [eqIsQuiet_byValue n rfl]
    exact wpAny_pure h
  | .str x => fun n A E s v as Q _ _ hr h => by
    cases hr
    rw [eqIsQuiet_byValue n rfl]
    exact wpAny_pure h
  | .tuple xs => quiet_tuple (quiet_each xs)
  | .none => fun n A E s v as Q _ _ hr h => by
    cases hr
    rw [eqIsQuiet_byValue n rfl]
    exact wpAny_pure h
  | .bool _ => fun n A E s v as Q h => by simp [hk] at h
  | .list _ => fun n A E s v as Q h => by simp [hk] at h
  | .dict _ => fun n A E s v as Q h => by simp [hk] at h
theorem quiet_each : ∀ xs : List PyData, ∀ x ∈ xs, QuietP prog w x
  | [], x, h => nomatch h
  | y :: ys, x, h => by
    rcases List.mem_cons.mp h with e | h
    · rw [e]; exact quiet_one y
    · exact quiet_each ys x h
end
variable {A : Around} {E : Value → Shared → Prop} {s : Shared}
theorem KeyAt.quiet {d : PyData} {v : Value} {Q : Bool → Shared → Prop} (k : KeyAt s.heap d v) (h : Q true s) : wpAny (model prog w) A (eqIsQuiet 8 v) Q E s := by
  obtain ⟨as, r⟩ := k.rd
  exact quiet_one d 8 A E s v as Q k.hk k.dp r h
theorem mayTell_quiet {k : PyData} {key : Value} {stored : List Value} {Q : Bool → Shared → Prop} (hkey : KeyAt s.heap k key) (hst : ∀ v ∈ stored, ∃ d, KeyAt s.heap d v) (h : Q false s) : wpAny (model prog w) A (tableMayTell key stored) Q E s := by
  unfold tableMayTell
  split
  · exact wpAny_pure h
  · refine wpAny_bind (hkey.quiet ?_)
    simp only [Bool.not_true, Bool.false_eq_true, if_false]
    refine wpAny_bind ?_
    refine wpAny_forIn_list _ (fun rest r s' => s' = s ∧ r = (none, ()) ∧ ∀ v ∈ rest, ∃ d, KeyAt s.heap d v) _ ?_ ?_ _ _ ⟨rfl, rfl, hst⟩
    · rintro x rest r s' ⟨rfl, rfl, hr⟩
      obtain ⟨k', hb⟩ := hr x List.mem_cons_self
      refine wpAny_bind (hb.quiet ?_)
      simp only [Bool.not_true, Bool.false_eq_true, if_false]
      exact wpAny_pure ⟨rfl, rfl, fun v hv => hr v (List.mem_cons_of_mem _ hv)⟩
    · rintro r s' ⟨rfl, rfl, _⟩
      exact wpAny_pure h
/-- the entries es have the keys ks -/
structure Keys (w : World) (h : Heap) (ks : List PyData) (es : Array DictEntry) : Prop where
  sz : es.size = ks.length
  at_ : ∀ (j : Nat) (x : PyData), ks[j]? = some x → ∃ e, es[j]? = some e ∧ KeyAt h x e.key ∧ e.hash = hsh w x
  nd : ks.Nodup
theorem Keys.of_es {h : Heap} {ks : List PyData} {es : Array DictEntry} (K : Keys w h ks es) {j : Nat} {e : DictEntry} (he : es[j]? = some e) : ∃ x, ks[j]? = some x ∧ KeyAt h x e.key ∧ e.hash = hsh w x := by
  have hj : j < es.size := by
    rcases Nat.lt_or_ge j es.size with z | z
    · exact z
    · rw [Array.getElem?_eq_none z] at he; cases he
  have hj' : j < ks.length := by rw [← K.sz]; exact hj
  obtain ⟨e', h1, h2⟩ := K.at_ j ks[j] (List.getElem?_eq_getElem hj')
  rw [he] at h1
  cases h1
  exact ⟨ks[j], List.getElem?_eq_getElem hj', h2⟩
theorem nd_same {ks : List PyData} (hn : ks.Nodup) {i j : Nat} {k : PyData} (hi : ks[i]? = some k) (hj : ks[j]? = some k) : i = j :=
  (List.getElem?_inj (List.getElem?_eq_some_iff.mp hi).1 hn).mp (hi.trans hj.symm)
theorem find_g {d : Addr} {o : Obj} {es : Array DictEntry} {ep : Nat} {ks : List PyData} {k : PyData} {key : Value} {Q : Option Nat → Shared → Prop} (hu : A.units + 8 < cLine) (hkey : KeyAt s.heap k key)
    (ho : s.heap.get? d = some o) (hd : o.data = .dict es ep) (K : Keys w s.heap ks es) (hnone : k ∉ ks → Q none s) (hsome : ∀ j, ks[j]? = some k → Q (some j) s) :
    wpAny (model prog w) A (dictFind d key (hsh w k)) Q E s := by
  have haskey : ∀ (j : Nat), ks[j]? = some k → ((es[j]?.map (·.hash)) == some (hsh w k)) = true := by
    intro j hj
    obtain ⟨e, h1, h2, h3⟩ := K.at_ j k hj
    rw [h1]
    simp [h3]
  have none_of : (∀ j, j < es.size → ks[j]? ≠ some k) → k ∉ ks := fun h hm => by
    obtain ⟨j, hj⟩ := List.mem_iff_getElem?.mp hm
    have : j < ks.length := (List.getElem?_eq_some_iff.mp hj).1
    exact h j (by rw [K.sz]; exact this) hj
  have hst : ∀ v ∈ (placesWithHash es.size (fun i => es[i]?.map (·.hash)) (hsh w k)).filterMap (fun i => es[i]?.map (·.key)), ∃ d, KeyAt s.heap d v := by
    intro v hv
    obtain ⟨i, _, hi⟩ := List.mem_filterMap.mp hv
    cases hei : es[i]? with
    | none => rw [hei] at hi; cases hi
    | some e =>
      rw [hei] at hi
      obtain rfl : e.key = v := by simpa using hi
      obtain ⟨x, _, h2, _⟩ := K.of_es hei
      exact ⟨x, h2⟩
  have plain : wpAny (model prog w) A (dictWalkPlain d key (hsh w k) es (placesWithHash es.size (fun i => es[i]?.map (·.hash)) (hsh w k))) Q E s := by
    refine wpAny_bind ?_
    refine wpAny_forIn_list _
      (fun rest b s' => s' = s ∧ b = (none, ()) ∧ ∃ i, rest = (List.range' i (es.size - i)).filter (fun i => (es[i]?.map (·.hash)) == some (hsh w k)) ∧ i ≤ es.size ∧
        ∀ j, j < i → ks[j]? ≠ some k) _ ?_ ?_ _ _
      ⟨rfl, rfl, 0, by rw [placesWithHash, List.range_eq_range', Nat.sub_zero], Nat.zero_le _, fun _ h => absurd h (Nat.not_lt_zero _)⟩
    · rintro x rest b s' ⟨rfl, rfl, i, hr, hi, hno⟩
      obtain ⟨hix, hxn, hpx, hskip, hrest⟩ := filter_range'_cons _ _ _ _ _ hr.symm
      have hlt : x < es.size := by omega
      have hex : es[x]? = some es[x] := Array.getElem?_eq_getElem hlt
      obtain ⟨k', hk1, hk2, hk3⟩ := K.of_es hex
      have hnext : ¬ k' = k → ∃ i, rest = (List.range' i (es.size - i)).filter (fun i => (es[i]?.map (·.hash)) == some (hsh w k)) ∧ i ≤ es.size ∧ ∀ j, j < i → ks[j]? ≠ some k := fun hne =>
        ⟨x + 1, by rw [hrest]; congr 2; omega, hlt, fun j hji hj => by
          rcases Nat.lt_or_ge j i with h | h
          · exact hno j h hj
          · rcases Nat.lt_or_ge j x with h' | h'
            · have := hskip j h h'
              rw [haskey j hj] at this
              exact absurd this (by decide)
            · have : j = x := by omega
              subst this
              rw [hk1] at hj
              exact hne (Option.some.inj hj)⟩
      simp only [hex]
      by_cases hh : (es[x].hash == hsh w k) = true
      · rw [if_pos hh]
        refine wpAny_bind (wpAny_dictEpoch ho hd (wpAny_bind (hk2.eq hkey hu (wpAny_bind (wpAny_dictEpoch ho hd ?_)))))
        show wpAny _ _ (if (ep != ep) = true then _ else _) _ E _
        rw [if_neg (by simp)]
        by_cases hkk : k' = k
        · rw [decide_eq_true hkk]
          subst hkk
          exact wpAny_bind (wpAny_rule (wpAny_pure (wpAny_pure (hsome x hk1))))
        · rw [decide_eq_false hkk]
          exact wpAny_bind (wpAny_rule (wpAny_pure ⟨rfl, rfl, hnext hkk⟩))
      · rw [if_neg hh]
        refine wpAny_pure ⟨rfl, rfl, hnext ?_⟩
        intro hkk
        rw [hk3, hkk] at hh; simp at hh
    · rintro b s' ⟨rfl, rfl, i, hr, hi, hno⟩
      have hall : ∀ j, i ≤ j → j < es.size → ((es[j]?.map (·.hash)) == some (hsh w k)) = false := by
        intro j h1 h2
        have := List.filter_eq_nil_iff.mp hr.symm j (List.mem_range'_1.mpr ⟨h1, by omega⟩)
        simpa using this
      refine wpAny_pure (hnone (none_of fun j hj hjk => ?_))
      rcases Nat.lt_or_ge j i with h | h
      · exact hno j h hjk
      · have := hall j h hj
        rw [haskey j hjk] at this
        exact absurd this (by decide)
  have hmem : ∀ e ∈ es, ∃ x, KeyAt s.heap x e.key ∧ e.hash = hsh w x := by
    intro e hin
    obtain ⟨j, hj⟩ := Array.mem_iff_getElem?.mp hin
    obtain ⟨x, _, h2⟩ := K.of_es hj
    exact ⟨x, h2⟩
  have hany : ¬ (es.any fun e => e.key == key && e.hash != hsh w k) = true := by
    rw [← Array.any_toList, List.any_eq_true]
    rintro ⟨e, hin, hc⟩
    obtain ⟨x, h2, h3⟩ := hmem e (Array.mem_toList_iff.mp hin)
    simp only [Bool.and_eq_true, beq_iff_eq, bne_iff_ne, ne_eq] at hc
    obtain ⟨hxa, hne⟩ := hc
    rw [hxa] at h2
    exact hne (by rw [h3, h2.inj hkey])
  have hkey' := hkey
  obtain ⟨as, hr⟩ := hkey'.rd
  unfold dictFind
  try with_reducible refine wpAny_holding ?_
  refine wpAny_bind (wpAny_dictEntries ho hd ?_)
  cases hr with
  | int ii tt =>
    dsimp only
    by_cases hall : ((Value.int ii tt :: (placesWithHash es.size (fun i => es[i]?.map (·.hash)) (hsh w (.int ii))).filterMap (fun i => es[i]?.map (·.key))).all carriedByValue) = true
    · rw [if_pos hall]; exact plain
    rw [if_neg hall]
    by_cases hone : (((placesWithHash es.size (fun i => es[i]?.map (·.hash)) (hsh w (PyData.int ii))).filterMap (fun i => es[i]?.map (·.key))) == [Value.int ii tt]) = true <;>
    (first | rw [if_pos hone] | rw [if_neg hone]) <;> (first | refine wpAny_bind (wpAny_pure ?_) | refine wpAny_bind (mayTell_quiet hkey hst ?_)) <;> (
      rw [if_neg (by simp)]
      refine wpAny_bind ?_
      refine wpAny_forIn_list _
        (fun rest b s' => s' = s ∧ ∃ i hit, b = (none, hit) ∧ rest = (List.range' i (es.size - i)).filter (fun i => (es[i]?.map (·.hash)) == some (hsh w (PyData.int ii))) ∧ i ≤ es.size ∧
          ((hit = none ∧ ∀ j, j < i → ks[j]? ≠ some (PyData.int ii)) ∨ ∃ j, hit = some j ∧ j < i ∧ ks[j]? = some (PyData.int ii))) _ ?_ ?_ _ _
        ⟨rfl, 0, none, rfl, by rw [placesWithHash, List.range_eq_range', Nat.sub_zero], Nat.zero_le _, .inl ⟨rfl, fun _ h => absurd h (Nat.not_lt_zero _)⟩⟩
      · rintro x rest b s' ⟨rfl, i, hit, rfl, hr, hi, hH⟩
        obtain ⟨hix, hxn, hpx, hskip, hrest⟩ := filter_range'_cons _ _ _ _ _ hr.symm
        have hlt : x < es.size := by omega
        have hrest' : rest = (List.range' (x + 1) (es.size - (x + 1))).filter (fun i => (es[i]?.map (·.hash)) == some (hsh w (PyData.int ii))) := by rw [hrest]; congr 2; omega
        have hex : es[x]? = some es[x] := Array.getElem?_eq_getElem hlt
        obtain ⟨k', hk1, hk2, hk3⟩ := K.of_es hex
        have hHx : (hit = none ∧ ∀ j, j < x → ks[j]? ≠ some (PyData.int ii)) ∨ ∃ j, hit = some j ∧ j < x ∧ ks[j]? = some (PyData.int ii) := by
          rcases hH with ⟨h0, hno⟩ | ⟨j, h1, hji, hj⟩
          · refine .inl ⟨h0, fun j hjx hj => ?_⟩
            rcases Nat.lt_or_ge j i with h | h
            · exact hno j h hj
            · have := hskip j h hjx
              rw [haskey j hj] at this
              exact absurd this (by decide)
          · exact .inr ⟨j, h1, by omega, hj⟩
        have hstay : ¬ k' = (PyData.int ii) → ((hit = none ∧ ∀ j, j < x + 1 → ks[j]? ≠ some (PyData.int ii)) ∨ ∃ j, hit = some j ∧ j < x + 1 ∧ ks[j]? = some (PyData.int ii)) := by
          intro hne
          rcases hHx with ⟨h0, hno⟩ | ⟨j, h1, hjx, hj⟩
          · refine .inl ⟨h0, fun j hjx hj => ?_⟩
            rcases Nat.lt_or_ge j x with h | h
            · exact hno j h hj
            · have hjx' : j = x := by omega
              subst hjx'
              rw [hk1] at hj
              exact hne (Option.some.inj hj)
          · exact .inr ⟨j, h1, by omega, hj⟩
        rw [hex]
        dsimp only
        by_cases hh : (es[x].hash == hsh w (PyData.int ii)) = true
        · rw [if_pos hh]
          refine wpAny_bind (wpAny_dictEpoch ho hd (wpAny_bind (hk2.eq hkey hu (wpAny_bind (wpAny_dictEpoch ho hd ?_)))))
          show wpAny _ _ (if (ep != ep) = true then _ else _) _ E _
          rw [if_neg (by simp)]
          by_cases hkk : k' = (PyData.int ii)
          · rw [decide_eq_true hkk]
            subst hkk
            rcases hHx with ⟨rfl, _⟩ | ⟨j, _, hjx, hj⟩
            · first | rw [if_pos rfl] | skip
              simp only [Option.isSome_none, Bool.false_eq_true, if_false]
              first | refine wpAny_bind (wpAny_pure ?_) | skip
              refine wpAny_bind (wpAny_rule ?_)
              split
              · exact wpAny_pure (wpAny_pure (hsome x hk1))
              · exact wpAny_pure ⟨rfl, x + 1, some x, rfl, hrest', hlt, .inr ⟨x, rfl, Nat.lt_succ_self x, hk1⟩⟩
            · exact absurd (nd_same K.nd hj hk1) (by omega)
          · rw [decide_eq_false hkk]
            simp only [Bool.false_eq_true, if_false]
            refine wpAny_bind (wpAny_rule ?_)
            first | rw [if_neg (by simp)] | skip
            first
              | exact wpAny_pure ⟨rfl, x + 1, hit, rfl, hrest', hlt, hstay hkk⟩
              | exact wpAny_bind (wpAny_pure (wpAny_pure ⟨rfl, x + 1, hit, rfl, hrest', hlt, hstay hkk⟩))
        · rw [if_neg hh]
          refine wpAny_pure ⟨rfl, x + 1, hit, rfl, hrest', hlt, hstay ?_⟩
          intro hkk
          rw [hk3, hkk] at hh; simp at hh
      · rintro b s' ⟨rfl, i, hit, rfl, hr, hi, hH⟩
        have hall : ∀ j, i ≤ j → j < es.size → ((es[j]?.map (·.hash)) == some (hsh w (PyData.int ii))) = false := by
          intro j h1 h2
          have := List.filter_eq_nil_iff.mp hr.symm j (List.mem_range'_1.mpr ⟨h1, by omega⟩)
          simpa using this
        rcases hH with ⟨rfl, hno⟩ | ⟨j, rfl, _, hj⟩
        · refine wpAny_pure (hnone (none_of fun j hj hjk => ?_))
          rcases Nat.lt_or_ge j i with h | h
          · exact hno j h hjk
          · have := hall j h hj
            rw [haskey j hjk] at this
            exact absurd this (by decide)
        · exact wpAny_pure (hsome j hj))
  | str xx tt =>
    dsimp only
    by_cases hstrs : (es.all fun e => isExactStrKey e.key) = true
    · rw [if_pos hstrs]
      have isx : ∀ (j : Nat) (e : DictEntry), es[j]? = some e → e.key.isStr xx = decide (ks[j]? = some (.str xx)) := by
        intro j e he
        obtain ⟨y, h1, h2, h3⟩ := K.of_es he
        have hx := Array.all_eq_true_iff_forall_mem.mp hstrs e (Array.mem_of_getElem? he)
        obtain ⟨bs, hr⟩ := h2.rd
        rw [h1]
        cases hv : e.key with
        | str z u =>
          rw [hv] at hr
          cases hr
          show (z == xx) = _
          by_cases hzx : z = xx
          · subst hzx; simp
          · rw [beq_eq_false_iff_ne.mpr hzx]
            symm
            exact decide_eq_false (by simpa using hzx)
        | _ => rw [hv] at hx; simp [isExactStrKey] at hx
      unfold foundByValue
      cases hf : es.findIdx? (fun e => e.key.isStr xx) with
      | none =>
        refine wpAny_pure (hnone (none_of fun j hj hjk => ?_))
        have := Array.findIdx?_eq_none_iff.mp hf es[j] (Array.getElem_mem hj)
        rw [isx j es[j] (Array.getElem?_eq_getElem hj), decide_eq_true hjk] at this
        cases this
      | some i =>
        obtain ⟨hlt, hi, _⟩ := Array.findIdx?_eq_some_iff_getElem.mp hf
        have hex : es[i]? = some es[i] := Array.getElem?_eq_getElem hlt
        rw [isx i _ hex] at hi
        have hi := of_decide_eq_true hi
        obtain ⟨y, h1, h2, h3⟩ := K.of_es hex
        rw [hi] at h1
        cases h1
        simp only [hex]
        refine wpAny_bind (wpAny_dictEpoch ho hd (wpAny_bind (h2.eq hkey hu (wpAny_bind (wpAny_dictEpoch ho hd ?_)))))
        show wpAny _ _ (if (ep != ep) = true then _ else _) _ E _
        rw [if_neg (by simp), decide_eq_true rfl]
        exact wpAny_bind (wpAny_rule (wpAny_pure (hsome i hi)))
    rw [if_neg hstrs]
    by_cases hall : ((Value.str xx tt :: (placesWithHash es.size (fun i => es[i]?.map (·.hash)) (hsh w (.str xx))).filterMap (fun i => es[i]?.map (·.key))).all carriedByValue) = true
    · rw [if_pos hall]; exact plain
    rw [if_neg hall]
    by_cases hone : (((placesWithHash es.size (fun i => es[i]?.map (·.hash)) (hsh w (PyData.str xx))).filterMap (fun i => es[i]?.map (·.key))) == [Value.str xx tt]) = true <;>
    (first | rw [if_pos hone] | rw [if_neg hone]) <;> (first | refine wpAny_bind (wpAny_pure ?_) | refine wpAny_bind (mayTell_quiet hkey hst ?_)) <;> (
      rw [if_neg (by simp)]
      refine wpAny_bind ?_
      refine wpAny_forIn_list _
        (fun rest b s' => s' = s ∧ ∃ i hit, b = (none, hit) ∧ rest = (List.range' i (es.size - i)).filter (fun i => (es[i]?.map (·.hash)) == some (hsh w (PyData.str xx))) ∧ i ≤ es.size ∧
          ((hit = none ∧ ∀ j, j < i → ks[j]? ≠ some (PyData.str xx)) ∨ ∃ j, hit = some j ∧ j < i ∧ ks[j]? = some (PyData.str xx))) _ ?_ ?_ _ _
        ⟨rfl, 0, none, rfl, by rw [placesWithHash, List.range_eq_range', Nat.sub_zero], Nat.zero_le _, .inl ⟨rfl, fun _ h => absurd h (Nat.not_lt_zero _)⟩⟩
      · rintro x rest b s' ⟨rfl, i, hit, rfl, hr, hi, hH⟩
        obtain ⟨hix, hxn, hpx, hskip, hrest⟩ := filter_range'_cons _ _ _ _ _ hr.symm
        have hlt : x < es.size := by omega
        have hrest' : rest = (List.range' (x + 1) (es.size - (x + 1))).filter (fun i => (es[i]?.map (·.hash)) == some (hsh w (PyData.str xx))) := by rw [hrest]; congr 2; omega
        have hex : es[x]? = some es[x] := Array.getElem?_eq_getElem hlt
        obtain ⟨k', hk1, hk2, hk3⟩ := K.of_es hex
        have hHx : (hit = none ∧ ∀ j, j < x → ks[j]? ≠ some (PyData.str xx)) ∨ ∃ j, hit = some j ∧ j < x ∧ ks[j]? = some (PyData.str xx) := by
          rcases hH with ⟨h0, hno⟩ | ⟨j, h1, hji, hj⟩
          · refine .inl ⟨h0, fun j hjx hj => ?_⟩
            rcases Nat.lt_or_ge j i with h | h
            · exact hno j h hj
            · have := hskip j h hjx
              rw [haskey j hj] at this
              exact absurd this (by decide)
          · exact .inr ⟨j, h1, by omega, hj⟩
        have hstay : ¬ k' = (PyData.str xx) → ((hit = none ∧ ∀ j, j < x + 1 → ks[j]? ≠ some (PyData.str xx)) ∨ ∃ j, hit = some j ∧ j < x + 1 ∧ ks[j]? = some (PyData.str xx)) := by
          intro hne
          rcases hHx with ⟨h0, hno⟩ | ⟨j, h1, hjx, hj⟩
          · refine .inl ⟨h0, fun j hjx hj => ?_⟩
            rcases Nat.lt_or_ge j x with h | h
            · exact hno j h hj
            · have hjx' : j = x := by omega
              subst hjx'
              rw [hk1] at hj
              exact hne (Option.some.inj hj)
          · exact .inr ⟨j, h1, by omega, hj⟩
        rw [hex]
        dsimp only
        by_cases hh : (es[x].hash == hsh w (PyData.str xx)) = true
        · rw [if_pos hh]
          refine wpAny_bind (wpAny_dictEpoch ho hd (wpAny_bind (hk2.eq hkey hu (wpAny_bind (wpAny_dictEpoch ho hd ?_)))))
          show wpAny _ _ (if (ep != ep) = true then _ else _) _ E _
          rw [if_neg (by simp)]
          by_cases hkk : k' = (PyData.str xx)
          · rw [decide_eq_true hkk]
            subst hkk
            rcases hHx with ⟨rfl, _⟩ | ⟨j, _, hjx, hj⟩
            · first | rw [if_pos rfl] | skip
              simp only [Option.isSome_none, Bool.false_eq_true, if_false]
              first | refine wpAny_bind (wpAny_pure ?_) | skip
              refine wpAny_bind (wpAny_rule ?_)
              split
              · exact wpAny_pure (wpAny_pure (hsome x hk1))
              · exact wpAny_pure ⟨rfl, x + 1, some x, rfl, hrest', hlt, .inr ⟨x, rfl, Nat.lt_succ_self x, hk1⟩⟩
            · exact absurd (nd_same K.nd hj hk1) (by omega)
          · rw [decide_eq_false hkk]
            simp only [Bool.false_eq_true, if_false]
            refine wpAny_bind (wpAny_rule ?_)
            first | rw [if_neg (by simp)] | skip
            first
              | exact wpAny_pure ⟨rfl, x + 1, hit, rfl, hrest', hlt, hstay hkk⟩
              | exact wpAny_bind (wpAny_pure (wpAny_pure ⟨rfl, x + 1, hit, rfl, hrest', hlt, hstay hkk⟩))
        · rw [if_neg hh]
          refine wpAny_pure ⟨rfl, x + 1, hit, rfl, hrest', hlt, hstay ?_⟩
          intro hkk
          rw [hk3, hkk] at hh; simp at hh
      · rintro b s' ⟨rfl, i, hit, rfl, hr, hi, hH⟩
        have hall : ∀ j, i ≤ j → j < es.size → ((es[j]?.map (·.hash)) == some (hsh w (PyData.str xx))) = false := by
          intro j h1 h2
          have := List.filter_eq_nil_iff.mp hr.symm j (List.mem_range'_1.mpr ⟨h1, by omega⟩)
          simpa using this
        rcases hH with ⟨rfl, hno⟩ | ⟨j, rfl, _, hj⟩
        · refine wpAny_pure (hnone (none_of fun j hj hjk => ?_))
          rcases Nat.lt_or_ge j i with h | h
          · exact hno j h hjk
          · have := hall j h hj
            rw [haskey j hjk] at this
            exact absurd this (by decide)
        · exact wpAny_pure (hsome j hj))
  | @tuple a o' vs n ys _ h1 h2 h3 h4 =>
    dsimp only
    rw [if_neg (show ¬ ((Value.ref a :: (placesWithHash es.size (fun i => es[i]?.map (·.hash)) (hsh w (.tuple ys))).filterMap (fun i => es[i]?.map (·.key))).all carriedByValue) = true by simp [carriedByValue])]
    rw [if_neg hany]
    by_cases hone : (((placesWithHash es.size (fun i => es[i]?.map (·.hash)) (hsh w (PyData.tuple ys))).filterMap (fun i => es[i]?.map (·.key))) == [Value.ref a]) = true <;>
    (first | rw [if_pos hone] | rw [if_neg hone]) <;> (first | refine wpAny_bind (wpAny_pure ?_) | refine wpAny_bind (mayTell_quiet hkey hst ?_)) <;> (
      rw [if_neg (by simp)]
      refine wpAny_bind ?_
      refine wpAny_forIn_list _
        (fun rest b s' => s' = s ∧ ∃ i hit, b = (none, hit) ∧ rest = (List.range' i (es.size - i)).filter (fun i => (es[i]?.map (·.hash)) == some (hsh w (PyData.tuple ys))) ∧ i ≤ es.size ∧
          ((hit = none ∧ ∀ j, j < i → ks[j]? ≠ some (PyData.tuple ys)) ∨ ∃ j, hit = some j ∧ j < i ∧ ks[j]? = some (PyData.tuple ys))) _ ?_ ?_ _ _
        ⟨rfl, 0, none, rfl, by rw [placesWithHash, List.range_eq_range', Nat.sub_zero], Nat.zero_le _, .inl ⟨rfl, fun _ h => absurd h (Nat.not_lt_zero _)⟩⟩
      · rintro x rest b s' ⟨rfl, i, hit, rfl, hr, hi, hH⟩
        obtain ⟨hix, hxn, hpx, hskip, hrest⟩ := filter_range'_cons _ _ _ _ _ hr.symm
        have hlt : x < es.size := by omega
        have hrest' : rest = (List.range' (x + 1) (es.size - (x + 1))).filter (fun i => (es[i]?.map (·.hash)) == some (hsh w (PyData.tuple ys))) := by rw [hrest]; congr 2; omega
        have hex : es[x]? = some es[x] := Array.getElem?_eq_getElem hlt
        obtain ⟨k', hk1, hk2, hk3⟩ := K.of_es hex
        have hHx : (hit = none ∧ ∀ j, j < x → ks[j]? ≠ some (PyData.tuple ys)) ∨ ∃ j, hit = some j ∧ j < x ∧ ks[j]? = some (PyData.tuple ys) := by
          rcases hH with ⟨h0, hno⟩ | ⟨j, h1, hji, hj⟩
          · refine .inl ⟨h0, fun j hjx hj => ?_⟩
            rcases Nat.lt_or_ge j i with h | h
            · exact hno j h hj
            · have := hskip j h hjx
              rw [haskey j hj] at this
              exact absurd this (by decide)
          · exact .inr ⟨j, h1, by omega, hj⟩
        have hstay : ¬ k' = (PyData.tuple ys) → ((hit = none ∧ ∀ j, j < x + 1 → ks[j]? ≠ some (PyData.tuple ys)) ∨ ∃ j, hit = some j ∧ j < x + 1 ∧ ks[j]? = some (PyData.tuple ys)) := by
          intro hne
          rcases hHx with ⟨h0, hno⟩ | ⟨j, h1, hjx, hj⟩
          · refine .inl ⟨h0, fun j hjx hj => ?_⟩
            rcases Nat.lt_or_ge j x with h | h
            · exact hno j h hj
            · have hjx' : j = x := by omega
              subst hjx'
              rw [hk1] at hj
              exact hne (Option.some.inj hj)
          · exact .inr ⟨j, h1, by omega, hj⟩
        rw [hex]
        dsimp only
        by_cases hh : (es[x].hash == hsh w (PyData.tuple ys)) = true
        · rw [if_pos hh]
          refine wpAny_bind (wpAny_dictEpoch ho hd (wpAny_bind (hk2.eq hkey hu (wpAny_bind (wpAny_dictEpoch ho hd ?_)))))
          show wpAny _ _ (if (ep != ep) = true then _ else _) _ E _
          rw [if_neg (by simp)]
          by_cases hkk : k' = (PyData.tuple ys)
          · rw [decide_eq_true hkk]
            subst hkk
            rcases hHx with ⟨rfl, _⟩ | ⟨j, _, hjx, hj⟩
            · first | rw [if_pos rfl] | skip
              simp only [Option.isSome_none, Bool.false_eq_true, if_false]
              first | refine wpAny_bind (wpAny_pure ?_) | skip
              refine wpAny_bind (wpAny_rule ?_)
              split
              · exact wpAny_pure (wpAny_pure (hsome x hk1))
              · exact wpAny_pure ⟨rfl, x + 1, some x, rfl, hrest', hlt, .inr ⟨x, rfl, Nat.lt_succ_self x, hk1⟩⟩
            · exact absurd (nd_same K.nd hj hk1) (by omega)
          · rw [decide_eq_false hkk]
            simp only [Bool.false_eq_true, if_false]
            refine wpAny_bind (wpAny_rule ?_)
            first | rw [if_neg (by simp)] | skip
            first
              | exact wpAny_pure ⟨rfl, x + 1, hit, rfl, hrest', hlt, hstay hkk⟩
              | exact wpAny_bind (wpAny_pure (wpAny_pure ⟨rfl, x + 1, hit, rfl, hrest', hlt, hstay hkk⟩))
        · rw [if_neg hh]
          refine wpAny_pure ⟨rfl, x + 1, hit, rfl, hrest', hlt, hstay ?_⟩
          intro hkk
          rw [hk3, hkk] at hh; simp at hh
      · rintro b s' ⟨rfl, i, hit, rfl, hr, hi, hH⟩
        have hall : ∀ j, i ≤ j → j < es.size → ((es[j]?.map (·.hash)) == some (hsh w (PyData.tuple ys))) = false := by
          intro j h1 h2
          have := List.filter_eq_nil_iff.mp hr.symm j (List.mem_range'_1.mpr ⟨h1, by omega⟩)
          simpa using this
        rcases hH with ⟨rfl, hno⟩ | ⟨j, rfl, _, hj⟩
        · refine wpAny_pure (hnone (none_of fun j hj hjk => ?_))
          rcases Nat.lt_or_ge j i with h | h
          · exact hno j h hjk
          · have := hall j h hj
            rw [haskey j hjk] at this
            exact absurd this (by decide)
        · exact wpAny_pure (hsome j hj))
  | none =>
    dsimp only
    by_cases hall : ((Value.none :: (placesWithHash es.size (fun i => es[i]?.map (·.hash)) (hsh w PyData.none)).filterMap (fun i => es[i]?.map (·.key))).all carriedByValue) = true
    · rw [if_pos hall]; exact plain
    rw [if_neg hall]
    by_cases hone : (((placesWithHash es.size (fun i => es[i]?.map (·.hash)) (hsh w PyData.none)).filterMap (fun i => es[i]?.map (·.key))) == [Value.none]) = true <;>
    (first | rw [if_pos hone] | rw [if_neg hone]) <;> (first | refine wpAny_bind (wpAny_pure ?_) | refine wpAny_bind (mayTell_quiet hkey hst ?_)) <;> (
      rw [if_neg (by simp)]
      refine wpAny_bind ?_
      refine wpAny_forIn_list _
        (fun rest b s' => s' = s ∧ ∃ i hit, b = (none, hit) ∧ rest = (List.range' i (es.size - i)).filter (fun i => (es[i]?.map (·.hash)) == some (hsh w PyData.none)) ∧ i ≤ es.size ∧
          ((hit = none ∧ ∀ j, j < i → ks[j]? ≠ some PyData.none) ∨ ∃ j, hit = some j ∧ j < i ∧ ks[j]? = some PyData.none)) _ ?_ ?_ _ _
        ⟨rfl, 0, none, rfl, by rw [placesWithHash, List.range_eq_range', Nat.sub_zero], Nat.zero_le _, .inl ⟨rfl, fun _ h => absurd h (Nat.not_lt_zero _)⟩⟩
      · rintro x rest b s' ⟨rfl, i, hit, rfl, hr, hi, hH⟩
        obtain ⟨hix, hxn, hpx, hskip, hrest⟩ := filter_range'_cons _ _ _ _ _ hr.symm
        have hlt : x < es.size := by omega
        have hrest' : rest = (List.range' (x + 1) (es.size - (x + 1))).filter (fun i => (es[i]?.map (·.hash)) == some (hsh w PyData.none)) := by rw [hrest]; congr 2; omega
        have hex : es[x]? = some es[x] := Array.getElem?_eq_getElem hlt
        obtain ⟨k', hk1, hk2, hk3⟩ := K.of_es hex
        have hHx : (hit = none ∧ ∀ j, j < x → ks[j]? ≠ some PyData.none) ∨ ∃ j, hit = some j ∧ j < x ∧ ks[j]? = some PyData.none := by
          rcases hH with ⟨h0, hno⟩ | ⟨j, h1, hji, hj⟩
          · refine .inl ⟨h0, fun j hjx hj => ?_⟩
            rcases Nat.lt_or_ge j i with h | h
            · exact hno j h hj
            · have := hskip j h hjx
              rw [haskey j hj] at this
              exact absurd this (by decide)
          · exact .inr ⟨j, h1, by omega, hj⟩
        have hstay : ¬ k' = PyData.none → ((hit = none ∧ ∀ j, j < x + 1 → ks[j]? ≠ some PyData.none) ∨ ∃ j, hit = some j ∧ j < x + 1 ∧ ks[j]? = some PyData.none) := by
          intro hne
          rcases hHx with ⟨h0, hno⟩ | ⟨j, h1, hjx, hj⟩
          · refine .inl ⟨h0, fun j hjx hj => ?_⟩
            rcases Nat.lt_or_ge j x with h | h
            · exact hno j h hj
            · have hjx' : j = x := by omega
              subst hjx'
              rw [hk1] at hj
              exact hne (Option.some.inj hj)
          · exact .inr ⟨j, h1, by omega, hj⟩
        rw [hex]
        dsimp only
        by_cases hh : (es[x].hash == hsh w PyData.none) = true
        · rw [if_pos hh]
          refine wpAny_bind (wpAny_dictEpoch ho hd (wpAny_bind (hk2.eq hkey hu (wpAny_bind (wpAny_dictEpoch ho hd ?_)))))
          show wpAny _ _ (if (ep != ep) = true then _ else _) _ E _
          rw [if_neg (by simp)]
          by_cases hkk : k' = PyData.none
          · rw [decide_eq_true hkk]
            subst hkk
            rcases hHx with ⟨rfl, _⟩ | ⟨j, _, hjx, hj⟩
            · first | rw [if_pos rfl] | skip
              simp only [Option.isSome_none, Bool.false_eq_true, if_false]
              first | refine wpAny_bind (wpAny_pure ?_) | skip
              refine wpAny_bind (wpAny_rule ?_)
              split
              · exact wpAny_pure (wpAny_pure (hsome x hk1))
              · exact wpAny_pure ⟨rfl, x + 1, some x, rfl, hrest', hlt, .inr ⟨x, rfl, Nat.lt_succ_self x, hk1⟩⟩
            · exact absurd (nd_same K.nd hj hk1) (by omega)
          · rw [decide_eq_false hkk]
            simp only [Bool.false_eq_true, if_false]
            refine wpAny_bind (wpAny_rule ?_)
            first | rw [if_neg (by simp)] | skip
            first
              | exact wpAny_pure ⟨rfl, x + 1, hit, rfl, hrest', hlt, hstay hkk⟩
              | exact wpAny_bind (wpAny_pure (wpAny_pure ⟨rfl, x + 1, hit, rfl, hrest', hlt, hstay hkk⟩))
        · rw [if_neg hh]
          refine wpAny_pure ⟨rfl, x + 1, hit, rfl, hrest', hlt, hstay ?_⟩
          intro hkk
          rw [hk3, hkk] at hh; simp at hh
      · rintro b s' ⟨rfl, i, hit, rfl, hr, hi, hH⟩
        have hall : ∀ j, i ≤ j → j < es.size → ((es[j]?.map (·.hash)) == some (hsh w PyData.none)) = false := by
          intro j h1 h2
          have := List.filter_eq_nil_iff.mp hr.symm j (List.mem_range'_1.mpr ⟨h1, by omega⟩)
          simpa using this
        rcases hH with ⟨rfl, hno⟩ | ⟨j, rfl, _, hj⟩
        · refine wpAny_pure (hnone (none_of fun j hj hjk => ?_))
          rcases Nat.lt_or_ge j i with h | h
          · exact hno j h hjk
          · have := hall j h hj
            rw [haskey j hjk] at this
            exact absurd this (by decide)
        · exact wpAny_pure (hsome j hj))
  | bool b => have := hkey.hk; simp [hk] at this
  | list h1 h2 h3 h4 => have := hkey.hk; simp [hk] at this
  | dict h1 h2 h3 h4 => have := hkey.hk; simp [hk] at this
end
end
end GD
/-! GD3: operations of such dicts, by the dict's object. -/
namespace GD
open PySem
open Sem (wp)
noncomputable section
open Classical
/-- the dict at d is o, with these entries -/
structure DictG (w : World) (h : Heap) (d : Addr) (o : Obj) (es : Array DictEntry) (ep : Nat) (ks : List PyData) : Prop where
  at_ : h.get? d = some o
  ex : o.ExactDict
  dt : o.data = .dict es ep
  nm : (d == sysModules) = false
  ky : Keys w h ks es
  sz : es.size ≤ sizeLine
theorem DictG.typeIs {w : World} {s : Shared} {d : Addr} {o : Obj} {es : Array DictEntry} {ep : Nat} {ks : List PyData} (g : DictG w s.heap d o es ep ks) : s.TypeIs (.ref d) "dict" := ⟨o, g.at_, g.ex.1⟩
section
variable {prog : Program} {w : World} {A : Around} {E : Value → Shared → Prop} {s : Shared} {d : Addr} {o : Obj} {es : Array DictEntry} {ep : Nat} {ks : List PyData} {k : PyData} {key : Value}
theorem DictG.tok (g : DictG w s.heap d o es ep ks) (n : Nat) : DictG w ({ s with toks := n } : Shared).heap d o es ep ks := g
/-- what is found -/
def valG (es : Array DictEntry) (ks : List PyData) (k : PyData) : Option Value := match ks.findIdx? (fun x => decide (x = k)) with
  | some j => es[j]?.map (·.val)
  | none => none
theorem find_none (h : k ∉ ks) : ks.findIdx? (fun x => decide (x = k)) = none := by
  rw [List.findIdx?_eq_none_iff]
  intro x hx
  refine decide_eq_false fun z => h ?_
  rw [← z]
  exact hx
theorem valG_none (h : k ∉ ks) : valG es ks k = none := by
  unfold valG
  rw [find_none h]
theorem find_of {j : Nat} (hn : ks.Nodup) (h : ks[j]? = some k) : ks.findIdx? (fun x => decide (x = k)) = some j := by
  have hj := (List.getElem?_eq_some_iff.mp h).1
  refine List.findIdx?_eq_some_iff_getElem.mpr ⟨hj, decide_eq_true (List.getElem?_eq_some_iff.mp h).2, fun i hi => ?_⟩
  refine fun z => absurd (nd_same hn (i := i) (j := j) (k := k) ?_ h) (by omega)
  rw [List.getElem?_eq_getElem (by omega)]
  exact congrArg some (of_decide_eq_true z)
theorem valG_some {j : Nat} (hn : ks.Nodup) (h : ks[j]? = some k) : valG es ks k = es[j]?.map (·.val) := by
  unfold valG
  rw [find_of hn h]
/-- is it among the keys -/
def inKs (k : PyData) (ks : List PyData) : Bool := decide (k ∈ ks)
theorem inKs_iff {k : PyData} {ks : List PyData} : inKs k ks = true ↔ k ∈ ks := decide_eq_true_iff
theorem inKs_t {k : PyData} {ks : List PyData} (h : k ∈ ks) : inKs k ks = true := inKs_iff.mpr h
theorem inKs_f {k : PyData} {ks : List PyData} (h : k ∉ ks) : inKs k ks = false := decide_eq_false h
theorem Keys.val_isSome {h : Heap} (K : Keys w h ks es) : (valG es ks k).isSome = inKs k ks := by
  unfold inKs
  by_cases hm : k ∈ ks
  · obtain ⟨j, hj⟩ := List.mem_iff_getElem?.mp hm
    obtain ⟨e, he, _⟩ := K.at_ j k hj
    rw [valG_some K.nd hj, he, decide_eq_true hm]
    rfl
  · rw [valG_none hm, decide_eq_false hm]
    rfl
theorem get_g {Q : Option Value → Shared → Prop} (hu : A.units + 8 < cLine) (hkey : KeyAt s.heap k key) (g : DictG w s.heap d o es ep ks) (h : ∀ n, Q (valG es ks k) { s with toks := s.toks + n }) : wpAny (model prog w) A (dictGet d key) Q E s := by
  unfold dictGet
  try with_reducible refine wpAny_holding ?_
  refine wpAny_bind (hkey.hash hu fun n => wpAny_bind (find_g (s := { s with toks := s.toks + n }) hu hkey g.at_ g.dt g.ky ?_ ?_))
  · intro hno
    have := h n
    rw [valG_none hno] at this
    exact wpAny_pure this
  · intro j hj
    have := h n
    rw [valG_some g.ky.nd hj] at this
    exact wpAny_bind (wpAny_dictEntries (s := { s with toks := s.toks + n }) g.at_ g.dt (wpAny_pure this))
theorem key_keeps {h h' : Heap} {o : Obj} (hk : KeyAt h k key) (ho : h.get? d = some o) (hd : o.data = .dict es ep) (hs : Heap.SameBut d h h') : KeyAt h' k key := by
  obtain ⟨as, r⟩ := hk.rd
  have go : ∀ (x : PyData) (v : Value) (as : List Addr), GD.hk x = true → Reads h v x as → Reads h' v x as := by
    intro x v as hx r
    have : (∀ (v : Value) (x : PyData) (as : List Addr), Reads h v x as → (GD.hk x = true → Reads h' v x as)) := by
      intro v x as r
      refine Reads.rec (motive_1 := fun v x as _ => GD.hk x = true → Reads h' v x as) (motive_2 := fun vs xs as _ => hks xs = true → ReadsAll h' vs xs as) ?_ ?_ ?_ ?_ ?_ ?_ ?_ ?_ ?_ r
      · intro _; exact .none
      · intro b z; simp [GD.hk] at z
      · intro i t _; exact .int i t
      · intro x t _; exact .str x t
      · intro a o vs n xs as _ _ _ _ _ z; simp [GD.hk] at z
      · intro a o' vs n xs as h1 h2 h3 _ ih z
        refine .tuple ((hs.2 a ?_).trans h1) h2 h3 (ih (by simpa only [GD.hk] using z))
        rintro rfl
        obtain rfl : o' = o := Option.some.inj (h1.symm.trans ho)
        rw [hd] at h3; exact nomatch h3
      · intro a o es n kvs as bs _ _ _ _ _ _ _ z; simp [GD.hk] at z
      · intro _; exact .nil
      · intro v vs x xs as bs _ _ ih1 ih2 z
        have q : GD.hk x = true ∧ hks xs = true := by simpa only [hks, Bool.and_eq_true] using z
        exact .cons (ih1 q.1) (ih2 q.2)
    exact this v x as r hx
  exact ⟨hk.hk, hk.dp, as, go k key as hk.hk r⟩
theorem Keys.keeps {h h' : Heap} {o : Obj} (K : Keys w h ks es) (ho : h.get? d = some o) (hd : o.data = .dict es ep) (hs : Heap.SameBut d h h') : Keys w h' ks es :=
  ⟨K.sz, fun j x hx => by
    obtain ⟨e, h1, h2, h3⟩ := K.at_ j x hx
    exact ⟨e, h1, key_keeps h2 ho hd hs, h3⟩, K.nd⟩
/-- the entries behind d[k] = v -/
def putE (w : World) (es : Array DictEntry) (ks : List PyData) (k : PyData) (key v : Value) : Array DictEntry := match ks.findIdx? (fun x => decide (x = k)) with
  | some j => es.modify j fun e => { e with val := v }
  | none => es.push ⟨hsh w k, key, v⟩
def putKs (ks : List PyData) (k : PyData) : List PyData := if k ∈ ks then ks else ks ++ [k]
theorem set_g {v : Value} {Q : Unit → Shared → Prop} (hu : A.units + 8 < cLine) (hkey : KeyAt s.heap k key) (g : DictG w s.heap d o es ep ks) (hz : es.size < sizeLine)
    (hQ : ∀ h' o' ep' n, DictG w h' d o' (putE w es ks k key v) ep' (putKs ks k) → Heap.SameBut d s.heap h' → Q () { s with heap := h', toks := s.toks + n }) : wpAny (model prog w) A (dictSet d key v) Q E s := by
  unfold dictSet
  try with_reducible refine wpAny_holding ?_
  refine wpAny_bind (hkey.hash hu fun n => ?_)
  unfold dictSetHashed
  try with_reducible refine wpAny_holding ?_
  refine wpAny_bind (find_g (s := { s with toks := s.toks + n }) hu hkey g.at_ g.dt g.ky ?_ ?_)
  · intro hno
    have e1 : putE w es ks k key v = es.push ⟨hsh w k, key, v⟩ := by
      unfold putE
      rw [find_none hno]
    have e2 : putKs ks k = ks ++ [k] := by unfold putKs; rw [if_neg hno]
    rw [e1, e2] at hQ
    refine wpAny_bind (wpAny_rule (wpAny_updateDictKeys (hz := by have := g.sz; exact g.sz) (s := { s with toks := s.toks + n }) g.at_ g.dt (hQ _ _ (ep + 1) n ⟨Heap.get?_update_self _ g.at_ (Obj.isFreed_of_dict (Obj.data_mapDictKeys g.dt _)),
      g.ex.mapDictKeys _, Obj.data_mapDictKeys g.dt _, g.nm, ⟨?_, ?_, ?_⟩, ?_⟩ (Heap.SameBut.update ..))))
    · simp [g.ky.sz]
    · intro j x hx
      have hs : Heap.SameBut d s.heap (s.heap.update d fun o => o.mapDictKeys (·.push ⟨hsh w k, key, v⟩)) := Heap.SameBut.update ..
      rcases Nat.lt_or_ge j ks.length with hj | hj
      · rw [List.getElem?_append_left hj] at hx
        obtain ⟨e, h1, h2, h3⟩ := g.ky.at_ j x hx
        exact ⟨e, by rw [Array.getElem?_push_lt (by rw [g.ky.sz]; exact hj), ← h1, Array.getElem?_eq_getElem], key_keeps h2 g.at_ g.dt hs, h3⟩
      · rw [List.getElem?_append_right hj] at hx
        have hj0 : j = ks.length := by
          rcases Nat.eq_or_lt_of_le hj with z | z
          · exact z.symm
          · rw [List.getElem?_eq_none (by simp; omega)] at hx; cases hx
        subst hj0
        simp only [Nat.sub_self, List.getElem?_cons_zero, Option.some.injEq] at hx
        subst hx
        refine ⟨⟨hsh w k, key, v⟩, ?_, key_keeps hkey g.at_ g.dt hs, rfl⟩
        rw [← g.ky.sz]
        simp
    · rw [List.nodup_append]
      refine ⟨g.ky.nd, by simp, ?_⟩
      intro x hx y hy
      simp only [List.mem_singleton] at hy
      subst hy
      exact fun e => hno (e ▸ hx)
    · simp; omega
  · intro j hj
    have hm : k ∈ ks := List.mem_of_getElem? hj
    have e1 : putE w es ks k key v = es.modify j fun e => { e with val := v } := by
      unfold putE
      rw [find_of g.ky.nd hj]
    have e2 : putKs ks k = ks := by unfold putKs; rw [if_pos hm]
    rw [e1, e2] at hQ
    refine wpAny_bind (wpAny_rule (wpAny_bind (wpAny_updateDict (s := { s with toks := s.toks + n }) g.at_ g.dt (wpAny_point (hQ _ _ ep n ⟨Heap.get?_update_self _ g.at_ (Obj.isFreed_of_dict (Obj.data_mapDict g.dt _)),
      g.ex.mapDict _, Obj.data_mapDict g.dt _, g.nm, ⟨?_, ?_, g.ky.nd⟩, ?_⟩ (Heap.SameBut.update ..))))))
    · simp [g.ky.sz]
    · intro i x hx
      obtain ⟨e, h1, h2, h3⟩ := g.ky.at_ i x hx
      have hs : Heap.SameBut d s.heap (s.heap.update d fun o => o.mapDict (·.modify j fun e => { e with val := v })) := Heap.SameBut.update ..
      by_cases hij : j = i
      · subst hij
        refine ⟨{ e with val := v }, ?_, key_keeps h2 g.at_ g.dt hs, h3⟩
        rw [Array.getElem?_modify, if_pos rfl, h1]
        rfl
      · exact ⟨e, by rw [Array.getElem?_modify, if_neg hij]; exact h1, key_keeps h2 g.at_ g.dt hs, h3⟩
    · simp; exact g.sz
end
end
end GD
/-! GD4: in, d[k], d[k] = v, get, len, pop of such dicts. -/
namespace GD
open PySem
open Sem (wp)
noncomputable section
open Classical
section
variable {prog : Program} {w : World} {A : Around} {E : Value → Shared → Prop} {s : Shared} {d : Addr} {o : Obj} {es : Array DictEntry} {ep : Nat} {ks : List PyData} {k : PyData} {key : Value}
theorem contains_g {Q : Bool → Shared → Prop} (hu : A.units + 9 < cLine) (hkey : KeyAt s.heap k key) (g : DictG w s.heap d o es ep ks) (h : ∀ n, Q (inKs k ks) { s with toks := s.toks + n }) : wpAny (model prog w) A (contains (.ref d) key) Q E s := by
  unfold contains
  try with_reducible refine wpAny_holding ?_
  refine wpAny_bind (wpAny_specialOf g.typeIs slot_dict_contains.lookup ?_)
  show wpAny _ _ (if (some (Value.builtin "dict.__contains__") == some Value.none) = true then _ else _) _ E s
  rw [if_neg (by rw [beq_builtin_none]; exact Bool.false_ne_true)]
  refine wpAny_bind (wpAny_callSpecialUnlessNone?_slot (name := Str.ofString "__contains__") g.typeIs slot_dict_contains
    (wpAny_call_entry slot_dict_contains g.typeIs entry_dict_contains ?_ (args_dict_contains _ _)))
  show wpAny _ _ (dictGet d key >>= _) _ _ s
  refine wpAny_bind (get_g (show A.units + 1 + 8 < cLine by omega) hkey g fun n => ?_)
  have q := g.ky.val_isSome (k := k)
  cases hf : valG es ks k with
  | some p =>
    rw [hf] at q
    have := h n
    rw [← q] at this
    show wpAny _ _ (ret (.bool true)) _ _ _
    exact wpAny_pure ⟨_, rfl, wpAny_truthy_bool this⟩
  | none =>
    rw [hf] at q
    have := h n
    rw [← q] at this
    show wpAny _ _ (Builtin.Dict.pendingKey? d key >>= _) _ _ _
    exact wpAny_bind (wpAny_pendingKey_other g.nm (wpAny_pure ⟨_, rfl, wpAny_truthy_bool this⟩))
theorem in_g {Q : Value → Shared → Prop} (hu : A.units + 9 < cLine) (hkey : KeyAt s.heap k key) (g : DictG w s.heap d o es ep ks) (h : ∀ n, Q (.bool (inKs k ks)) { s with toks := s.toks + n }) : wpAny (model prog w) A (compareOp .In key (.ref d)) Q E s := by
  show wpAny _ _ (do return .bool (← contains (.ref d) key)) Q E s
  exact wpAny_bind (contains_g hu hkey g fun n => wpAny_pure (h n))
theorem notIn_g {Q : Value → Shared → Prop} (hu : A.units + 9 < cLine) (hkey : KeyAt s.heap k key) (g : DictG w s.heap d o es ep ks) (h : ∀ n, Q (.bool (!inKs k ks)) { s with toks := s.toks + n }) : wpAny (model prog w) A (compareOp .NotIn key (.ref d)) Q E s := by
  show wpAny _ _ (do return .bool (!(← contains (.ref d) key))) Q E s
  exact wpAny_bind (contains_g hu hkey g fun n => wpAny_pure (h n))
theorem getItem_g {v : Value} {Q : Value → Shared → Prop} (hu : A.units + 9 < cLine) (hkey : KeyAt s.heap k key) (g : DictG w s.heap d o es ep ks) (hv : valG es ks k = some v) (h : ∀ n, Q v { s with toks := s.toks + n }) : wpAny (model prog w) A (getItem (.ref d) key) Q E s := by
  unfold getItem
  try with_reducible refine wpAny_holding ?_
  refine wpAny_bind (wpAny_sequenceKey g.typeIs (by decide) ?_)
  refine wpAny_bind (wpAny_callSpecial?_slot (name := Str.ofString "__getitem__") g.typeIs slot_dict_getitem
    (wpAny_call_entry slot_dict_getitem g.typeIs entry_dict_getitem ?_ (args_dict_getitem _ _)))
  show wpAny _ _ (dictGet d key >>= _) _ _ s
  refine wpAny_bind (get_g (show A.units + 1 + 8 < cLine by omega) hkey g fun n => ?_)
  rw [hv]
  exact wpAny_pure ⟨v, rfl, wpAny_pure (h n)⟩
theorem meets_get2 (dflt : Value) : MeetsIn prog w (Builtin.«dict.get» ⟨[.ref d, key, dflt], []⟩) (fun A R s => A.units + 9 < cLine ∧ ∃ k o es ep ks, KeyAt s.heap k key ∧ DictG w s.heap d o es ep ks ∧ ∀ n, R (.ok (.ret ((valG es ks k).getD dflt))) { s with toks := s.toks + n }) :=
  .of_wp fun A R s ⟨hu, k, o, es, ep, ks, hkey, g, h⟩ => by
    show wpAny _ _ (dictGet d key >>= _) _ _ s
    refine wpAny_bind (get_g (show A.units + 1 + 8 < cLine by omega) hkey g fun n => ?_)
    have := h n
    cases hf : valG es ks k with
    | some v =>
      rw [hf] at this
      exact wpAny_pure ⟨v, rfl, this⟩
    | none =>
      rw [hf] at this
      show wpAny _ _ (Builtin.Dict.missed d key >>= _) _ _ _
      exact wpAny_bind (wpAny_missed_other g.nm (wpAny_pure ⟨dflt, rfl, this⟩))
theorem get2_g {dflt : Value} {Q : Value → Shared → Prop} (hu : A.units + 9 < cLine) (hkey : KeyAt s.heap k key) (g : DictG w s.heap d o es ep ks) (h : ∀ n, Q ((valG es ks k).getD dflt) { s with toks := s.toks + n }) : wpAny (model prog w) A (call (.builtin "dict.get") [.ref d, key, dflt]) Q E s :=
  call_meetsIn PySem.F.slot_dict_get g.typeIs PySem.F.entry_dict_get (PySem.F.args_dict_get_3 _ _ _) (meets_get2 dflt) ⟨hu, k, o, es, ep, ks, hkey, g, h⟩
theorem meets_len : MeetsIn prog w (Builtin.«dict.__len__» ⟨[.ref d], []⟩) (fun _ R s => ∃ o es ep ks, DictG w s.heap d o es ep ks ∧ R (.ok (.ret (.int ks.length s.toks))) { s with toks := s.toks + 1 }) :=
  .of_wp fun A R s ⟨o, es, ep, ks, g, h⟩ => by
    show wpAny _ _ (dictSize d >>= _) _ _ s
    unfold dictSize
    refine wpAny_bind (wpAny_bind (wpAny_dictEntries g.at_ g.dt (wpAny_pure ?_)))
    show wpAny _ _ (Builtin.Dict.pendingCount d >>= _) _ _ s
    refine wpAny_bind (wpAny_pendingCount_other g.nm ?_)
    refine wpAny_ret_mkInt ?_
    rw [Nat.add_zero, g.ky.sz]; exact h
theorem len_body_g {Q : Value → Shared → Prop} (g : DictG w s.heap d o es ep ks) (h : ∀ t n, Q (.int ks.length t) { s with toks := s.toks + n }) : wpAny (model prog w) A (Builtin.«len» ⟨[.ref d], []⟩) (fun fin s' => ∃ r, fin = .done (.ret r) ∧ Q r s') E s := by
  have hfit : (ks.length : Int) < 2 ^ 63 := by
    have h1 := g.sz
    rw [g.ky.sz, sizeLine_eq] at h1
    omega
  unfold Builtin.«len»
  refine wpAny_bind (m := oneArg "len" _) (wpAny_pure ?_)
  refine wpAny_bind (m := callSpecial? (.ref d) (Str.ofString "__len__")) (wpAny_callSpecial?_slot (name := Str.ofString "__len__") g.typeIs F.slot_dict_len
    (call_meetsIn F.slot_dict_len g.typeIs F.entry_dict_len (F.args_dict_len_1 _) meets_len ⟨o, es, ep, ks, g, ?_⟩))
  show wpAny _ _ _ _ _ { s with toks := s.toks + 1 }
  refine wpAny_bind (wpAny_holding (wpAny_pure ?_))
  refine wpAny_bind (wpAny_letGo ?_)
  show wpAny _ _ (if ((ks.length : Nat) : Int) < 0 then _ else _) _ _ _
  rw [if_neg (by omega)]
  show wpAny _ _ (if ((ks.length : Nat) : Int) ≥ 2 ^ 63 then _ else _) _ _ _
  rw [if_neg (by omega)]
  exact wpAny_bind (wpAny_mkInt (wpAny_pure ⟨_, rfl, h _ 2⟩))
theorem len_g {Q : Value → Shared → Prop} (g : DictG w s.heap d o es ep ks) (h : ∀ t n, Q (.int ks.length t) { s with toks := s.toks + n }) : wpAny (model prog w) A (call (.builtin "len") [.ref d]) Q E s :=
  Calls.call_function_entry kind_len plain_len entry_len (args_len1 _) (len_body_g g h)
end
end
end GD
/-! HD: Python data as trees (D), what of them the abstract heap bears (Is), and what a body's slots bear (EnvOk). -/
namespace HD
open PySem L2
/-- Python data; bag is the law's own source of draws -/
inductive D where
  | non
  | bl (b : Bool)
  | int (i : Int)
  | str (s : Str)
  | ty (n : String)
  | tup (xs : List D)
  | lst (xs : List D)
  | dct (kvs : List (D × D))
  | obj (c : Str) (fs : List (Str × D))
  | bag
  | raw (a : Addr)
  | err (f : Str) (d : D)
  | exo (o : Obj) (kv : List V) (ks : List D)
  | duo (x : D) (v : V) (y : D)
/-- a text as Python's own: no longer than the line, of code points -/
def okS (s : Str) : Prop := s.length ≤ sizeLine ∧ PySem.PyData.strOk s = true
/-- where the bag and its list of cells stand; the world -/
structure Bg where
  b : Addr
  l : Addr
  w : World
/-! data as the library's PyData -/
mutual
def toP : D → PyData
  | .non => .none
  | .bl b => .bool b
  | .int i => .int i
  | .str s => .str s
  | .tup xs => .tuple (toPs xs)
  | .lst xs => .list (toPs xs)
  | .dct _ => .dict []
  | .obj _ _ => .dict []
  | .ty _ => .dict []
  | .bag => .dict []
  | .raw _ => .dict []
  | .err _ _ => .dict []
  | .exo _ _ _ => .dict []
  | .duo _ _ _ => .dict []
def toPs : List D → List PyData
  | [] => []
  | x :: xs => toP x :: toPs xs
end
/-- what may be a key of a dict -/
def keyOk (d : D) : Prop := GD.hk (toP d) = true ∧ (toP d).depth ≤ 8
/-- the very object o stands at a -/
def dX (a : Addr) (o : Obj) : HO := .ext fun h => h.get? a = some o
/-- the object o is a dict of these keys and values -/
structure DctOk (w : World) (a : Addr) (o : Obj) (es : Array DictEntry) (ep : Nat) (kv vv : List V) (ks : List D) : Prop where
  ex : o.ExactDict
  dt : o.data = .dict es ep
  nm : (a == sysModules) = false
  k : Vals kv (es.toList.map (·.key))
  v : Vals vv (es.toList.map (·.val))
  hs : es.toList.map (·.hash) = ks.map fun d => GD.hsh w (toP d)
  ok : ∀ d ∈ ks, keyOk d
  nd : (ks.map toP).Nodup
  sz : es.size ≤ sizeLine
/-- what of a body's own may be changed -/
def MutO (u : HO) : Prop := (∃ ys, u = .lst ys) ∨ (∃ φ, u = .ext φ) ∨ ∃ C dx fs, u = .ins C dx fs
def BagAt (B : Bg) (H : Hp) : Prop := B.l ≠ B.b ∧ ∃ (ns : List Int) (i r k sd : Int), H B.b = some (.lst [.ref B.l, .int i, .int r, .int k, .int sd]) ∧ H B.l = some (.lst (ns.map V.int)) ∧ 0 ≤ i ∧ 0 ≤ r ∧ 0 ≤ k ∧ 0 ≤ sd ∧ sd < 2147483629
mutual
/-- the value v is the datum d in H; lists and dicts of it stand outside O -/
inductive Is (B : Bg) (O : Addr → Prop) (K : PySem.W.Frag) (H : Hp) : V → D → Prop
  | non : Is B O K H .non .non
  | bl (c : Bool) : Is B O K H (.bl c) (.bl c)
  | int (i : Int) : Is B O K H (.int i) (.int i)
  | str (s : Str) (h : okS s) : Is B O K H (.str s) (.str s)
  | ty (n : String) : Is B O K H (.ty n) (.ty n)
  | tup {a : Addr} {xs : List V} {ds : List D} (h : SqT K H a xs) (r : IsL B O K H xs ds) : Is B O K H (.ref a) (.tup ds)
  | lst {a : Addr} {xs : List V} {ds : List D} (h : H a = some (.lst xs)) (n : ¬ O a) (r : IsL B O K H xs ds) : Is B O K H (.ref a) (.lst ds)
  | dct {a : Addr} {o : Obj} {es : Array DictEntry} {ep : Nat} {kv vv : List V} {ks vs : List D} (h : H a = some (dX a o)) (n : ¬ O a) (q : DctOk B.w a o es ep kv vv ks) (r1 : IsL B O K H kv ks) (r2 : IsL B O K H vv vs) : Is B O K H (.ref a) (.dct (ks.zip vs))
  | obj {a dx : Addr} {c : Str} {fs : List Str} {vs : List V} {ds : List D} (h : H a = some (.ins (He.ga K c) dx (fs.zip vs))) (n : ¬ O a) (l : fs.length = vs.length) (r : IsL B O K H vs ds) : Is B O K H (.ref a) (.obj c (fs.zip ds))
  | bag (h : BagAt B H) (o : O B.b) : Is B O K H (.ref B.b) .bag
  | raw (a : Addr) : Is B O K H (.ref a) (.raw a)
  | err {a : Addr} {f : Str} {v : V} {d : D} (h : H a = some (.xd [(f, v)])) (r : Is B O K H v d) : Is B O K H (.ref a) (.err f d)
  | exo {a : Addr} {o : Obj} {kv : List V} {ks : List D} (h : H a = some (dX a o)) (n : ¬ O a) (r : IsL B O K H kv ks) : Is B O K H (.ref a) (.exo o kv ks)
  | duo {a : Addr} {v : V} {x y : D} (h1 : Is B O K H (.ref a) x) (h2 : Is B O K H v y) : Is B O K H (.ref a) (.duo x v y)
inductive IsL (B : Bg) (O : Addr → Prop) (K : PySem.W.Frag) (H : Hp) : List V → List D → Prop
  | nil : IsL B O K H [] []
  | cons {v : V} {d : D} {vs : List V} {ds : List D} (h : Is B O K H v d) (r : IsL B O K H vs ds) : IsL B O K H (v :: vs) (d :: ds)
end
/-- all stands as it stood but for the bag's state -/
structure Ex (B : Bg) (H H' : Hp) : Prop where
  keep : ∀ a o, H a = some o → H' a = some o ∨ (a = B.b ∧ ∃ xs, o = .lst xs)
  there : ∀ a o, H a = some o → ∃ o', H' a = some o'
  bag : BagAt B H → BagAt B H'
section
variable {B : Bg} {O O' : Addr → Prop} {K : PySem.W.Frag} {H H1 H2 H' : Hp} {v : V} {d : D} {vs : List V} {ds : List D}
theorem Ex.refl (B : Bg) (H : Hp) : Ex B H H := ⟨fun _ _ e => .inl e, fun _ o e => ⟨o, e⟩, fun q => q⟩
theorem Ex.trans (x : Ex B H H1) (y : Ex B H1 H2) : Ex B H H2 := ⟨fun a o e => by
    rcases x.keep a o e with h | h
    · exact y.keep a o h
    · exact .inr h, fun a o e => by
    obtain ⟨o1, e1⟩ := x.there a o e
    exact y.there a o1 e1, fun q => y.bag (x.bag q)⟩
theorem Ex.new {p : Addr} {o : HO} (h : H p = none) : Ex B H (upd H p o) := ⟨fun a u e => .inl (by rw [upd_ne (ne_of_none e h)]; exact e), fun a u e => ⟨u, by rw [upd_ne (ne_of_none e h)]; exact e⟩, fun q => by
    obtain ⟨n, ns, i, r, k, sd, e1, e2, z⟩ := q
    exact ⟨n, ns, i, r, k, sd, by rw [upd_ne (ne_of_none e1 h)]; exact e1, by rw [upd_ne (ne_of_none e2 h)]; exact e2, z⟩⟩
theorem Ex.free {p : Addr} (x : Ex B H H') (h : H' p = none) : H p = none := by
  cases q : H p with
  | none => rfl
  | some o =>
    obtain ⟨o', e⟩ := x.there p o q
    rw [h] at e; cases e
theorem Ex.at {a : Addr} {o : HO} (x : Ex B H H') (e : H a = some o) (n : a ≠ B.b) : H' a = some o := by
  rcases x.keep a o e with h | ⟨h, _⟩
  · exact h
  · exact absurd h n
theorem Ex.tup {a : Addr} {xs : List V} (x : Ex B H H') (h : SqT K H a xs) : SqT K H' a xs := by
  rcases h with (h | ⟨o, h⟩) | h
  · rcases x.keep a _ h with z | ⟨_, ys, z⟩
    · exact .inl (.inl z)
    · cases z
  · rcases x.keep a _ h with z | ⟨_, ys, z⟩
    · exact .inl (.inr ⟨o, z⟩)
    · cases z
  · exact .inr h
mutual
theorem Is.ex (x : Ex B H H') (ob : O B.b) : ∀ {v : V} {d : D}, Is B O K H v d → Is B O K H' v d
  | _, _, .non => .non
  | _, _, .bl c => .bl c
  | _, _, .int i => .int i
  | _, _, .str s h => .str s h
  | _, _, .ty n => .ty n
  | _, _, .tup h r => .tup (x.tup h) (IsL.ex x ob r)
  | _, _, .lst h n r => .lst (x.at h fun z => n (by rw [z]; exact ob)) n (IsL.ex x ob r)
  | _, _, .dct h n q r1 r2 => .dct (x.at h fun z => n (by rw [z]; exact ob)) n q (IsL.ex x ob r1) (IsL.ex x ob r2)
  | _, _, .obj h n l r => .obj (x.at h fun z => n (by rw [z]; exact ob)) n l (IsL.ex x ob r)
  | _, _, .exo h n r => .exo (x.at h fun z => n (by rw [z]; exact ob)) n (IsL.ex x ob r)
  | _, _, .duo h1 h2 => .duo (Is.ex x ob h1) (Is.ex x ob h2)
  | _, _, .bag h o => .bag (x.bag h) o
  | _, _, .raw a => .raw a
  | _, _, .err h r => .err (by
      rcases x.keep _ _ h with q | ⟨_, ys, q⟩
      · exact q
      · cases q) (Is.ex x ob r)
theorem IsL.ex (x : Ex B H H') (ob : O B.b) : ∀ {vs : List V} {ds : List D}, IsL B O K H vs ds → IsL B O K H' vs ds
  | _, _, .nil => .nil
  | _, _, .cons h r => .cons (Is.ex x ob h) (IsL.ex x ob r)
end
mutual
/-- less is barred -/
theorem Is.sub (s : ∀ a, O' a → O a ∨ H a = none) (ob : O' B.b) : ∀ {v : V} {d : D}, Is B O K H v d → Is B O' K H v d
  | _, _, .non => .non
  | _, _, .bl c => .bl c
  | _, _, .int i => .int i
  | _, _, .str s h => .str s h
  | _, _, .ty n => .ty n
  | _, _, .tup h r => .tup h (IsL.sub s ob r)
  | _, _, .lst h n r => .lst h (fun z => (s _ z).elim n fun q => by rw [q] at h; cases h) (IsL.sub s ob r)
  | _, _, .dct h n q r1 r2 => .dct h (fun z => (s _ z).elim n fun q => by rw [q] at h; cases h) q (IsL.sub s ob r1) (IsL.sub s ob r2)
  | _, _, .obj h n l r => .obj h (fun z => (s _ z).elim n fun q => by rw [q] at h; cases h) l (IsL.sub s ob r)
  | _, _, .exo h n r => .exo h (fun z => (s _ z).elim n fun q => by rw [q] at h; cases h) (IsL.sub s ob r)
  | _, _, .duo h1 h2 => .duo (Is.sub s ob h1) (Is.sub s ob h2)
  | _, _, .bag h _ => .bag h ob
  | _, _, .raw a => .raw a
  | _, _, .err h r => .err h (Is.sub s ob r)
theorem IsL.sub (s : ∀ a, O' a → O a ∨ H a = none) (ob : O' B.b) : ∀ {vs : List V} {ds : List D}, IsL B O K H vs ds → IsL B O' K H vs ds
  | _, _, .nil => .nil
  | _, _, .cons h r => .cons (Is.sub s ob h) (IsL.sub s ob r)
end
/-- a barred list or dict is changed -/
theorem tup_mut {a p : Addr} {xs : List V} {o u : HO} (e : H p = some u) (hu : MutO u) (h : SqT K H a xs) : SqT K (upd H p o) a xs := by
  have ne : ∀ w, H a = some w → ¬ MutO w → a ≠ p := fun w q h1 z => by
    subst z
    rw [e] at q; cases q
    exact h1 hu
  rcases h with (h | ⟨ob, h⟩) | h
  · exact .inl (.inl (by rw [upd_ne (ne _ h (by rintro (⟨_, z⟩ | ⟨_, z⟩ | ⟨_, _, _, z⟩) <;> cases z))]; exact h))
  · exact .inl (.inr ⟨ob, by rw [upd_ne (ne _ h (by rintro (⟨_, z⟩ | ⟨_, z⟩ | ⟨_, _, _, z⟩) <;> cases z))]; exact h⟩)
  · exact .inr h
mutual
theorem Is.mut {p : Addr} {o u : HO} (op : O p) (e : H p = some u) (hu : MutO u) (nb : p ≠ B.b) (nl : p ≠ B.l) : ∀ {v : V} {d : D}, Is B O K H v d → Is B O K (upd H p o) v d
  | _, _, .non => .non
  | _, _, .bl c => .bl c
  | _, _, .int i => .int i
  | _, _, .str s h => .str s h
  | _, _, .ty n => .ty n
  | _, _, .tup h r => .tup (tup_mut e hu h) (IsL.mut op e hu nb nl r)
  | _, _, .lst h n r => .lst (by rw [upd_ne (fun z => n (by rw [z]; exact op))]; exact h) n (IsL.mut op e hu nb nl r)
  | _, _, .dct h n q r1 r2 => .dct (by rw [upd_ne (fun z => n (by rw [z]; exact op))]; exact h) n q (IsL.mut op e hu nb nl r1) (IsL.mut op e hu nb nl r2)
  | _, _, .obj h n l r => .obj (by rw [upd_ne (fun z => n (by rw [z]; exact op))]; exact h) n l (IsL.mut op e hu nb nl r)
  | _, _, .exo h n r => .exo (by rw [upd_ne (fun z => n (by rw [z]; exact op))]; exact h) n (IsL.mut op e hu nb nl r)
  | _, _, .duo h1 h2 => .duo (Is.mut op e hu nb nl h1) (Is.mut op e hu nb nl h2)
  | _, _, .raw a => .raw a
  | _, _, .err h r => .err (by
      rw [upd_ne (fun z => by
        rw [z, e] at h
        cases h
        rcases hu with ⟨_, q⟩ | ⟨_, q⟩ | ⟨_, _, _, q⟩ <;> cases q)]
      exact h) (Is.mut op e hu nb nl r)
  | _, _, .bag h ob => .bag (by
      obtain ⟨n, ns, i, r, k, sd, e1, e2, z⟩ := h
      exact ⟨n, ns, i, r, k, sd, by rw [upd_ne (Ne.symm nb)]; exact e1, by rw [upd_ne (Ne.symm nl)]; exact e2, z⟩) ob
theorem IsL.mut {p : Addr} {o u : HO} (op : O p) (e : H p = some u) (hu : MutO u) (nb : p ≠ B.b) (nl : p ≠ B.l) : ∀ {vs : List V} {ds : List D}, IsL B O K H vs ds → IsL B O K (upd H p o) vs ds
  | _, _, .nil => .nil
  | _, _, .cons h r => .cons (Is.mut op e hu nb nl h) (IsL.mut op e hu nb nl r)
end
theorem IsL.length : ∀ {vs : List V} {ds : List D}, IsL B O K H vs ds → vs.length = ds.length
  | _, _, .nil => rfl
  | _, _, .cons _ r => by rw [List.length_cons, List.length_cons, IsL.length r]
theorem IsL.get : ∀ {vs : List V} {ds : List D} {i : Nat} {d : D}, IsL B O K H vs ds → ds[i]? = some d → ∃ v, vs[i]? = some v ∧ Is B O K H v d
  | _, _, i, d, .nil, e => by simp at e
  | _, _, 0, d, .cons h r, e => by
    simp only [List.getElem?_cons_zero, Option.some.injEq] at e
    subst e
    exact ⟨_, rfl, h⟩
  | _, _, i + 1, d, .cons h r, e => by
    obtain ⟨v, h1, h2⟩ := IsL.get (i := i) r (by simpa using e)
    exact ⟨v, by simpa using h1, h2⟩
theorem IsL.append : ∀ {vs us : List V} {ds es : List D}, IsL B O K H vs ds → IsL B O K H us es → IsL B O K H (vs ++ us) (ds ++ es)
  | _, _, _, _, .nil, s => s
  | _, _, _, _, .cons h r, s => .cons h (IsL.append r s)
theorem IsL.drop : ∀ {vs : List V} {ds : List D} (n : Nat), IsL B O K H vs ds → IsL B O K H (vs.drop n) (ds.drop n)
  | _, _, 0, r => r
  | _, _, _ + 1, .nil => .nil
  | _, _, n + 1, .cons _ r => IsL.drop n r
theorem IsL.take : ∀ {vs : List V} {ds : List D} (n : Nat), IsL B O K H vs ds → IsL B O K H (vs.take n) (ds.take n)
  | _, _, 0, _ => .nil
  | _, _, _ + 1, .nil => .nil
  | _, _, n + 1, .cons h r => .cons h (IsL.take n r)
end
/-! ### slots -/
inductive Sl where
  | val (d : D)
  | own (d : D)
abbrev Rho := List (Option Sl)
/-- what a body runs over: the bag, the barred addresses, the written part, the heap at its entry, further facts that stay -/
structure Fx where
  B : Bg
  O : Addr → Prop
  K : PySem.W.Frag
  H0 : Hp
  G : List (V × D)
  /-- what a value given back keeps -/
  R : D → V → Hp → Prop
/-- a list, dict or instance that this body alone knows -/
inductive OwnAt (B : Bg) (O : Addr → Prop) (K : PySem.W.Frag) (H : Hp) : Addr → D → Prop
  | lst {a : Addr} {xs : List V} {ds : List D} (h : H a = some (.lst xs)) (r : IsL B O K H xs ds) : OwnAt B O K H a (.lst ds)
  | dct {a : Addr} {o : Obj} {es : Array DictEntry} {ep : Nat} {kv vv : List V} {ks vs : List D} (h : H a = some (dX a o)) (q : DctOk B.w a o es ep kv vv ks) (r1 : IsL B O K H kv ks) (r2 : IsL B O K H vv vs) : OwnAt B O K H a (.dct (ks.zip vs))
  | obj {a dx : Addr} {c : Str} {fs : List Str} {vs : List V} {ds : List D} (h : H a = some (.ins (He.ga K c) dx (fs.zip vs))) (l : fs.length = vs.length) (r : IsL B O K H vs ds) : OwnAt B O K H a (.obj c (fs.zip ds))
  | tag {a : Addr} {d : D} (h : OwnAt B O K H a d) : OwnAt B O K H a (.duo d (.ref a) (.raw a))
def OS (F : Fx) (σ : L2.St) (ρ : Rho) (a : Addr) : Prop := F.O a ∨ ∃ (i : Nat) (d : D), ρ[i]? = some (some (.own d)) ∧ σ[i]? = some (some (.ref a))
structure EnvOk (F : Fx) (H : Hp) (σ : L2.St) (ρ : Rho) : Prop where
  ex : Ex F.B F.H0 H
  len : σ.length = ρ.length
  ob : F.O F.B.b
  ol : F.O F.B.l
  oa : ∀ a, F.O a → H a ≠ none
  val : ∀ (i : Nat) (d : D), ρ[i]? = some (some (.val d)) → ∃ v, σ[i]? = some (some v) ∧ Is F.B (OS F σ ρ) F.K H v d
  own : ∀ (i : Nat) (d : D), ρ[i]? = some (some (.own d)) → ∃ a, σ[i]? = some (some (.ref a)) ∧ OwnAt F.B (OS F σ ρ) F.K H a d ∧ F.H0 a = none ∧ ¬ F.O a
  uniq : ∀ (i j : Nat) (d e : D) (a : Addr), ρ[i]? = some (some (.own d)) → ρ[j]? = some (some (.own e)) → σ[i]? = some (some (.ref a)) → σ[j]? = some (some (.ref a)) → i = j
  gh : ∀ p ∈ F.G, Is F.B (OS F σ ρ) F.K H p.1 p.2
section
variable {F : Fx} {H H' : Hp} {σ : L2.St} {ρ : Rho} {B : Bg} {O O' : Addr → Prop} {K : PySem.W.Frag}
theorem OwnAt.ex {a : Addr} {d : D} (x : Ex B H H') (ob : O B.b) (n : a ≠ B.b) (h : OwnAt B O K H a d) : OwnAt B O K H' a d := by
  induction h with
  | lst h r => exact .lst (x.at h n) (r.ex x ob)
  | dct h q r1 r2 => exact .dct (x.at h n) q (r1.ex x ob) (r2.ex x ob)
  | obj h l r => exact .obj (x.at h n) l (r.ex x ob)
  | tag h ih => exact .tag ih
theorem OwnAt.sub {a : Addr} {d : D} (s : ∀ a, O' a → O a ∨ H a = none) (ob : O' B.b) (h : OwnAt B O K H a d) : OwnAt B O' K H a d := by
  induction h with
  | lst h r => exact .lst h (r.sub s ob)
  | dct h q r1 r2 => exact .dct h q (r1.sub s ob) (r2.sub s ob)
  | obj h l r => exact .obj h l (r.sub s ob)
  | tag h ih => exact .tag ih
theorem OwnAt.mutO {a : Addr} {d : D} (h : OwnAt B O K H a d) : ∃ u, H a = some u ∧ MutO u := by
  induction h with
  | tag h ih => exact ih
  | lst h r => exact ⟨_, h, .inl ⟨_, rfl⟩⟩
  | dct h q r1 r2 => exact ⟨_, h, .inr (.inl ⟨_, rfl⟩)⟩
  | obj h l r => exact ⟨_, h, .inr (.inr ⟨_, _, _, rfl⟩)⟩
theorem OwnAt.there {a : Addr} {d : D} (h : OwnAt B O K H a d) : H a ≠ none := by
  obtain ⟨u, e, _⟩ := h.mutO
  rw [e]; simp
theorem OwnAt.is {a : Addr} {d : D} (h : OwnAt B O K H a d) (s : ∀ c, O' c → O c) (ob : O' B.b) (n : ¬ O' a) : Is B O' K H (.ref a) d := by
  induction h with
  | tag h ih => exact .duo ih (.raw _)
  | lst h r => exact .lst h n (r.sub (fun c z => .inl (s c z)) ob)
  | dct h q r1 r2 => exact .dct h n q (r1.sub (fun c z => .inl (s c z)) ob) (r2.sub (fun c z => .inl (s c z)) ob)
  | obj h l r => exact .obj h n l (r.sub (fun c z => .inl (s c z)) ob)
theorem OwnAt.mut {a p : Addr} {d : D} {o u : HO} (h : OwnAt B O K H a d) (ne : a ≠ p) (op : O p) (e : H p = some u) (hu : MutO u) (nb : p ≠ B.b) (nl : p ≠ B.l) : OwnAt B O K (upd H p o) a d := by
  induction h with
  | tag h ih => exact .tag ih
  | lst h r => exact .lst (by rw [upd_ne ne]; exact h) (r.mut op e hu nb nl)
  | dct h q r1 r2 => exact .dct (by rw [upd_ne ne]; exact h) q (r1.mut op e hu nb nl) (r2.mut op e hu nb nl)
  | obj h l r => exact .obj (by rw [upd_ne ne]; exact h) l (r.mut op e hu nb nl)
theorem EnvOk.osb (e : EnvOk F H σ ρ) : OS F σ ρ F.B.b := .inl e.ob
theorem EnvOk.oall (e : EnvOk F H σ ρ) : ∀ a, OS F σ ρ a → H a ≠ none := fun a h => by
  rcases h with h | ⟨i, d, h1, h2⟩
  · exact e.oa a h
  · obtain ⟨a', h3, h4, _⟩ := e.own i d h1
    rw [h2] at h3
    cases h3
    exact h4.there
/-- the same slots, a heap that has grown -/
theorem EnvOk.ex' (e : EnvOk F H σ ρ) (x : Ex F.B H H') : EnvOk F H' σ ρ where
  ex := e.ex.trans x
  len := e.len
  ob := e.ob
  ol := e.ol
  oa := fun a h => by
    have z := e.oa a h
    cases q : H a with
    | none => exact absurd q z
    | some o =>
      obtain ⟨o', e'⟩ := x.there a o q
      rw [e']; simp
  val := fun i d h => by
    obtain ⟨v, h1, h2⟩ := e.val i d h
    exact ⟨v, h1, h2.ex x e.osb⟩
  own := fun i d h => by
    obtain ⟨a, h1, h2, h3, h4⟩ := e.own i d h
    exact ⟨a, h1, h2.ex x e.osb (fun z => h4 (by rw [z]; exact e.ob)), h3, h4⟩
  uniq := e.uniq
  gh := fun p hp => (e.gh p hp).ex x e.osb
theorem os_val {i : Nat} {w : Option V} {d : Option Sl} (hd : ∀ z, d ≠ some (.own z)) {a : Addr} (h : OS F (σ.set i w) (ρ.set i d) a) : OS F σ ρ a := by
  rcases h with h | ⟨j, z, h1, h2⟩
  · exact .inl h
  · by_cases hj : i = j
    · subst hj
      rw [List.getElem?_set] at h1
      split at h1
      · split at h1
        · exact absurd (Option.some.inj h1) (hd z)
        · cases h1
      · rename_i q; exact absurd rfl q
    · rw [List.getElem?_set_ne hj] at h1 h2
      exact .inr ⟨j, z, h1, h2⟩
/-- x = e -/
theorem EnvOk.set (e : EnvOk F H σ ρ) {i : Nat} {v : V} {d : D} (h : Is F.B (OS F σ ρ) F.K H v d) : EnvOk F H (σ.set i (some v)) (ρ.set i (some (.val d))) where
  ex := e.ex
  len := by rw [List.length_set, List.length_set]; exact e.len
  ob := e.ob
  ol := e.ol
  oa := e.oa
  val := fun j dj hj => by
    have s : ∀ a, OS F (σ.set i (some v)) (ρ.set i (some (.val d))) a → OS F σ ρ a ∨ H a = none := fun a z => .inl (os_val (fun _ q => by cases q) z)
    by_cases hij : i = j
    · subst hij
      by_cases hl : i < ρ.length
      · rw [List.getElem?_set_self hl] at hj
        cases hj
        exact ⟨v, by rw [List.getElem?_set_self (by rw [e.len]; exact hl)], h.sub s (.inl e.ob)⟩
      · rw [List.getElem?_eq_none (by rw [List.length_set]; omega)] at hj; cases hj
    · rw [List.getElem?_set_ne hij] at hj
      obtain ⟨w, h1, h2⟩ := e.val j dj hj
      exact ⟨w, by rw [List.getElem?_set_ne hij]; exact h1, h2.sub s (.inl e.ob)⟩
  own := fun j dj hj => by
    have s : ∀ a, OS F (σ.set i (some v)) (ρ.set i (some (.val d))) a → OS F σ ρ a ∨ H a = none := fun a z => .inl (os_val (fun _ q => by cases q) z)
    by_cases hij : i = j
    · subst hij
      by_cases hl : i < ρ.length
      · rw [List.getElem?_set_self hl] at hj
        cases hj
      · rw [List.getElem?_eq_none (by rw [List.length_set]; omega)] at hj; cases hj
    · rw [List.getElem?_set_ne hij] at hj
      obtain ⟨a, h1, h2, h3⟩ := e.own j dj hj
      exact ⟨a, by rw [List.getElem?_set_ne hij]; exact h1, h2.sub s (.inl e.ob), h3⟩
  uniq := fun j k dj dk a hj hk h1 h2 => by
    have ne : ∀ (j : Nat) (dj : D), (ρ.set i (some (.val d)))[j]? = some (some (.own dj)) → i ≠ j := fun j dj hj hij => by
      subst hij
      rw [List.getElem?_set] at hj
      split at hj
      · split at hj
        · cases hj
        · cases hj
      · rename_i q; exact absurd rfl q
    have n1 := ne j dj hj
    have n2 := ne k dk hk
    rw [List.getElem?_set_ne n1] at hj h1
    rw [List.getElem?_set_ne n2] at hk h2
    exact e.uniq j k dj dk a hj hk h1 h2
  gh := fun p hp => by
    have s : ∀ a, OS F (σ.set i (some v)) (ρ.set i (some (.val d))) a → OS F σ ρ a ∨ H a = none := fun a z => .inl (os_val (fun _ q => by cases q) z)
    exact (e.gh p hp).sub s (.inl e.ob)
/-- a slot forgotten -/
theorem EnvOk.unset (e : EnvOk F H σ ρ) {i : Nat} {w : Option V} : EnvOk F H (σ.set i w) (ρ.set i none) where
  ex := e.ex
  len := by rw [List.length_set, List.length_set]; exact e.len
  ob := e.ob
  ol := e.ol
  oa := e.oa
  val := fun j dj hj => by
    have s : ∀ a, OS F (σ.set i w) (ρ.set i none) a → OS F σ ρ a ∨ H a = none := fun a z => .inl (os_val (fun _ q => by cases q) z)
    by_cases hij : i = j
    · subst hij
      by_cases hl : i < ρ.length
      · rw [List.getElem?_set_self hl] at hj
        cases hj
      · rw [List.getElem?_eq_none (by rw [List.length_set]; omega)] at hj; cases hj
    · rw [List.getElem?_set_ne hij] at hj
      obtain ⟨u, h1, h2⟩ := e.val j dj hj
      exact ⟨u, by rw [List.getElem?_set_ne hij]; exact h1, h2.sub s (.inl e.ob)⟩
  own := fun j dj hj => by
    have s : ∀ a, OS F (σ.set i w) (ρ.set i none) a → OS F σ ρ a ∨ H a = none := fun a z => .inl (os_val (fun _ q => by cases q) z)
    by_cases hij : i = j
    · subst hij
      by_cases hl : i < ρ.length
      · rw [List.getElem?_set_self hl] at hj
        cases hj
      · rw [List.getElem?_eq_none (by rw [List.length_set]; omega)] at hj; cases hj
    · rw [List.getElem?_set_ne hij] at hj
      obtain ⟨a, h1, h2, h3⟩ := e.own j dj hj
      exact ⟨a, by rw [List.getElem?_set_ne hij]; exact h1, h2.sub s (.inl e.ob), h3⟩
  uniq := fun j k dj dk a hj hk h1 h2 => by
    have ne : ∀ (j : Nat) (dj : D), (ρ.set i none)[j]? = some (some (.own dj)) → i ≠ j := fun j dj hj hij => by
      subst hij
      rw [List.getElem?_set] at hj
      split at hj
      · split at hj
        · cases hj
        · cases hj
      · rename_i q; exact absurd rfl q
    have n1 := ne j dj hj
    have n2 := ne k dk hk
    rw [List.getElem?_set_ne n1] at hj h1
    rw [List.getElem?_set_ne n2] at hk h2
    exact e.uniq j k dj dk a hj hk h1 h2
  gh := fun p hp => by
    have s : ∀ a, OS F (σ.set i w) (ρ.set i none) a → OS F σ ρ a ∨ H a = none := fun a z => .inl (os_val (fun _ q => by cases q) z)
    exact (e.gh p hp).sub s (.inl e.ob)
/-- new: nothing of it knows it -/
def OwnN (B : Bg) (O : Addr → Prop) (K : PySem.W.Frag) (H : Hp) (a : Addr) (d : D) : Prop := OwnAt B (fun c => O c ∨ c = a) K H a d
theorem own_new {p : Addr} {xs : List V} {ds : List D} (r : IsL B O K H xs ds) (hp : H p = none) (ob : O B.b) : OwnN B O K (upd H p (.lst xs)) p (.lst ds) :=
  .lst upd_same ((r.sub (O' := fun c => O c ∨ c = p) (fun c z => z.elim .inl fun z => .inr (by rw [z]; exact hp)) (.inl ob)).ex (Ex.new hp) (.inl ob))
theorem EnvOk.nb (e : EnvOk F H σ ρ) {a : Addr} (h : ¬ F.O a) : a ≠ F.B.b ∧ a ≠ F.B.l := ⟨fun z => h (by rw [z]; exact e.ob), fun z => h (by rw [z]; exact e.ol)⟩
/-- x = a new list or dict -/
theorem EnvOk.setOwn (e : EnvOk F H σ ρ) {i : Nat} {a : Addr} {d : D} (x : Ex F.B H H') (n : H a = none) (o : OwnN F.B (OS F σ ρ) F.K H' a d) : EnvOk F H' (σ.set i (some (.ref a))) (ρ.set i (some (.own d))) := by
  have s0 : ∀ c, OS F (σ.set i (some (.ref a))) (ρ.set i (some (.own d))) c → OS F σ ρ c ∨ c = a := fun c z => by
    rcases z with z | ⟨j, w, z1, z2⟩
    · exact .inl (.inl z)
    · by_cases hij : i = j
      · subst hij
        rw [List.getElem?_set] at z2
        split at z2
        · split at z2
          · exact .inr (V.ref.inj (Option.some.inj (Option.some.inj z2))).symm
          · cases z2
        · rename_i q; exact absurd rfl q
      · rw [List.getElem?_set_ne hij] at z1 z2
        exact .inl (.inr ⟨j, w, z1, z2⟩)
  have s : ∀ c, OS F (σ.set i (some (.ref a))) (ρ.set i (some (.own d))) c → OS F σ ρ c ∨ H c = none := fun c z => (s0 c z).elim .inl fun z => .inr (by rw [z]; exact n)
  have nO : ¬ OS F σ ρ a := fun z => e.oall a z n
  have nO1 : ¬ F.O a := fun z => nO (.inl z)
  have n0 : F.H0 a = none := e.ex.free n
  have e' := e.ex' x
  refine ⟨e'.ex, by rw [List.length_set, List.length_set]; exact e.len, e.ob, e.ol, e'.oa, fun j w hj => ?_, fun j w hj => ?_, fun j k w u c hj hk h1 h2 => ?_, fun p hp => ?_⟩
  · by_cases hij : i = j
    · subst hij
      rw [List.getElem?_set] at hj
      split at hj
      · split at hj
        · cases hj
        · cases hj
      · rename_i q; exact absurd rfl q
    · rw [List.getElem?_set_ne hij] at hj
      obtain ⟨v, h1, h2⟩ := e.val j w hj
      exact ⟨v, by rw [List.getElem?_set_ne hij]; exact h1, (h2.sub s (.inl e.ob)).ex x (.inl e.ob)⟩
  · by_cases hij : i = j
    · subst hij
      by_cases hl : i < ρ.length
      · rw [List.getElem?_set_self hl] at hj
        cases hj
        exact ⟨a, by rw [List.getElem?_set_self (by rw [e.len]; exact hl)], OwnAt.sub (fun c z => .inl (s0 c z)) (.inl e.ob) o, n0, nO1⟩
      · rw [List.getElem?_eq_none (by rw [List.length_set]; omega)] at hj; cases hj
    · rw [List.getElem?_set_ne hij] at hj
      obtain ⟨c, h1, h2, h3, h4⟩ := e.own j w hj
      exact ⟨c, by rw [List.getElem?_set_ne hij]; exact h1, (h2.sub s (.inl e.ob)).ex x (.inl e.ob) (e.nb h4).1, h3, h4⟩
  · have at_i : ∀ (j : Nat) (w : D) (c : Addr), (ρ.set i (some (.own d)))[j]? = some (some (.own w)) → (σ.set i (some (.ref a)))[j]? = some (some (.ref c)) → (i = j ∧ c = a) ∨ (i ≠ j ∧ ρ[j]? = some (some (.own w)) ∧ σ[j]? = some (some (.ref c)) ∧ c ≠ a) := fun j w c hj hc => by
      by_cases hij : i = j
      · subst hij
        rw [List.getElem?_set] at hc
        split at hc
        · split at hc
          · exact .inl ⟨rfl, (V.ref.inj (Option.some.inj (Option.some.inj hc))).symm⟩
          · cases hc
        · rename_i q; exact absurd rfl q
      · rw [List.getElem?_set_ne hij] at hj hc
        exact .inr ⟨hij, hj, hc, fun z => nO (.inr ⟨j, w, hj, by rw [hc, z]⟩)⟩
    rcases at_i j w c hj h1 with ⟨a1, a2⟩ | ⟨a1, a2, a3, a4⟩
    · rcases at_i k u c hk h2 with ⟨b1, b2⟩ | ⟨b1, b2, b3, b4⟩
      · exact a1.symm.trans b1
      · exact absurd a2 b4
    · rcases at_i k u c hk h2 with ⟨b1, b2⟩ | ⟨b1, b2, b3, b4⟩
      · exact absurd b2 a4
      · exact e.uniq j k w u c a2 b2 a3 b3
  · exact ((e.gh p hp).sub s (.inl e.ob)).ex x (.inl e.ob)
/-- it is shared from now on, and no more changed -/
theorem EnvOk.freeze (e : EnvOk F H σ ρ) {i : Nat} {d : D} (h : ρ[i]? = some (some (.own d))) : EnvOk F H σ (ρ.set i (some (.val d))) := by
  obtain ⟨a, ha, o, h0, hO⟩ := e.own i d h
  have es : σ = σ.set i (some (.ref a)) := by
    apply List.ext_getElem?
    intro j
    rw [List.getElem?_set]
    split
    · rename_i q; subst q
      split
      · exact ha
      · rename_i q; rw [List.getElem?_eq_none (by omega)]
    · rfl
  have s : ∀ c, OS F σ (ρ.set i (some (.val d))) c → OS F σ ρ c ∧ c ≠ a := fun c z => by
    rcases z with z | ⟨j, w, z1, z2⟩
    · exact ⟨.inl z, fun q => hO (by rw [← q]; exact z)⟩
    · by_cases hij : i = j
      · subst hij
        rw [List.getElem?_set] at z1
        split at z1
        · split at z1
          · cases z1
          · cases z1
        · rename_i q; exact absurd rfl q
      · rw [List.getElem?_set_ne hij] at z1
        exact ⟨.inr ⟨j, w, z1, z2⟩, fun q => hij (e.uniq i j d w a h z1 ha (by rw [z2, q]))⟩
  have s' : ∀ c, OS F σ (ρ.set i (some (.val d))) c → OS F σ ρ c ∨ H c = none := fun c z => .inl (s c z).1
  refine ⟨e.ex, by rw [List.length_set]; exact e.len, e.ob, e.ol, e.oa, fun j w hj => ?_, fun j w hj => ?_, fun j k w u c hj hk h1 h2 => ?_, fun p hp => (e.gh p hp).sub s' (.inl e.ob)⟩
  · by_cases hij : i = j
    · subst hij
      rw [List.getElem?_set] at hj
      split at hj
      · split at hj
        · cases hj
          exact ⟨_, ha, o.is (fun c z => (s c z).1) (.inl e.ob) fun z => (s a z).2 rfl⟩
        · cases hj
      · rename_i q; exact absurd rfl q
    · rw [List.getElem?_set_ne hij] at hj
      obtain ⟨v, h1, h2⟩ := e.val j w hj
      exact ⟨v, h1, h2.sub s' (.inl e.ob)⟩
  · by_cases hij : i = j
    · subst hij
      rw [List.getElem?_set] at hj
      split at hj
      · split at hj
        · cases hj
        · cases hj
      · rename_i q; exact absurd rfl q
    · rw [List.getElem?_set_ne hij] at hj
      obtain ⟨c, h1, h2, h3⟩ := e.own j w hj
      exact ⟨c, h1, h2.sub s' (.inl e.ob), h3⟩
  · have ne : ∀ (j : Nat) (w : D), (ρ.set i (some (.val d)))[j]? = some (some (.own w)) → ρ[j]? = some (some (.own w)) := fun j w hj => by
      by_cases hij : i = j
      · subst hij
        rw [List.getElem?_set] at hj
        split at hj
        · split at hj
          · cases hj
          · cases hj
        · rename_i q; exact absurd rfl q
      · rw [List.getElem?_set_ne hij] at hj; exact hj
    exact e.uniq j k w u c (ne j w hj) (ne k u hk) h1 h2
theorem Ex.mutN {a : Addr} {o : HO} (x : Ex B H H') (n : H a = none) (nb : a ≠ B.b) (nl : a ≠ B.l) : Ex B H (upd H' a o) := ⟨fun c u e => by
    rw [upd_ne (ne_of_none e n)]
    exact x.keep c u e, fun c u e => by
    rw [upd_ne (ne_of_none e n)]
    exact x.there c u e, fun q => by
    obtain ⟨n, ns, i, r, k, sd, e1, e2, z⟩ := x.bag q
    exact ⟨n, ns, i, r, k, sd, by rw [upd_ne (Ne.symm nb)]; exact e1, by rw [upd_ne (Ne.symm nl)]; exact e2, z⟩⟩
/-- an own list or dict is changed -/
theorem EnvOk.mutOwn (e : EnvOk F H σ ρ) {i : Nat} {a : Addr} {d d' : D} {o : HO} (h : ρ[i]? = some (some (.own d))) (ha : σ[i]? = some (some (.ref a))) (hn : OwnAt F.B (OS F σ ρ) F.K (upd H a o) a d') : EnvOk F (upd H a o) σ (ρ.set i (some (.own d'))) := by
  obtain ⟨a', ha', oo, h0, hO⟩ := e.own i d h
  rw [ha] at ha'
  cases ha'
  obtain ⟨u, hu, hk⟩ := oo.mutO
  obtain ⟨nb, nl⟩ := e.nb hO
  have hil : i < ρ.length := by
    rcases Nat.lt_or_ge i ρ.length with q | q
    · exact q
    · rw [List.getElem?_eq_none q] at h; cases h
  have op : OS F σ ρ a := .inr ⟨i, d, h, ha⟩
  have so : ∀ (j : Nat), (∃ w, (ρ.set i (some (.own d')))[j]? = some (some (.own w))) ↔ ∃ w, ρ[j]? = some (some (.own w)) := fun j => by
    by_cases hij : i = j
    · subst hij
      rw [List.getElem?_set_self hil]
      exact ⟨fun _ => ⟨d, h⟩, fun _ => ⟨d', rfl⟩⟩
    · rw [List.getElem?_set_ne hij]
  have s : ∀ c, OS F σ (ρ.set i (some (.own d'))) c → OS F σ ρ c := fun c z => by
    rcases z with z | ⟨j, w, z1, z2⟩
    · exact .inl z
    · obtain ⟨w', q⟩ := (so j).mp ⟨w, z1⟩
      exact .inr ⟨j, w', q, z2⟩
  have sub : ∀ c, OS F σ (ρ.set i (some (.own d'))) c → OS F σ ρ c ∨ (upd H a o) c = none := fun c z => .inl (s c z)
  refine ⟨e.ex.mutN h0 nb nl, by rw [List.length_set]; exact e.len, e.ob, e.ol, fun c z => ?_, fun j w hj => ?_, fun j w hj => ?_, fun j k w u' c hj hk' h1 h2 => ?_, fun p hp => ?_⟩
  · rw [upd_ne (fun q => hO (by rw [← q]; exact z))]
    exact e.oa c z
  · by_cases hij : i = j
    · subst hij
      rw [List.getElem?_set_self hil] at hj; cases hj
    · rw [List.getElem?_set_ne hij] at hj
      obtain ⟨v, h1, h2⟩ := e.val j w hj
      exact ⟨v, h1, (h2.mut op hu hk nb nl).sub sub (.inl e.ob)⟩
  · by_cases hij : i = j
    · subst hij
      rw [List.getElem?_set_self hil] at hj
      cases hj
      exact ⟨a, ha, hn.sub sub (.inl e.ob), h0, hO⟩
    · rw [List.getElem?_set_ne hij] at hj
      obtain ⟨c, h1, h2, h3, h4⟩ := e.own j w hj
      have nca : c ≠ a := fun q => hij (e.uniq i j d w a h hj ha (by rw [h1, q]))
      exact ⟨c, h1, (h2.mut nca op hu hk nb nl).sub sub (.inl e.ob), h3, h4⟩
  · obtain ⟨w1, q1⟩ := (so j).mp ⟨w, hj⟩
    obtain ⟨w2, q2⟩ := (so k).mp ⟨u', hk'⟩
    exact e.uniq j k w1 w2 c q1 q2 h1 h2
  · exact ((e.gh p hp).mut op hu hk nb nl).sub sub (.inl e.ob)
/-- a further fact that stays -/
theorem EnvOk.ghost (e : EnvOk F H σ ρ) {v : V} {d : D} (h : Is F.B (OS F σ ρ) F.K H v d) : EnvOk { F with G := (v, d) :: F.G } H σ ρ := ⟨e.ex, e.len, e.ob, e.ol, e.oa, e.val, e.own, e.uniq, fun p hp => by
  rcases List.mem_cons.mp hp with rfl | hp
  · exact h
  · exact e.gh p hp⟩
theorem EnvOk.unghost {q : V × D} (e : EnvOk { F with G := q :: F.G } H σ ρ) : EnvOk F H σ ρ := ⟨e.ex, e.len, e.ob, e.ol, e.oa, e.val, e.own, e.uniq, fun p hp => e.gh p (List.mem_cons_of_mem _ hp)⟩
/-- a list at p that a comprehension fills -/
abbrev Fx.bar (F : Fx) (p : Addr) : Fx := { F with O := fun c => F.O c ∨ c = p }
theorem EnvOk.bar (e : EnvOk F H σ ρ) {p : Addr} {o : HO} (hp : H p = none) : EnvOk (F.bar p) (upd H p o) σ ρ := by
  have s : ∀ c, OS (F.bar p) σ ρ c → OS F σ ρ c ∨ H c = none := fun c z => by
    rcases z with (z | z) | z
    · exact .inl (.inl z)
    · exact .inr (by rw [z]; exact hp)
    · exact .inl (.inr z)
  have x : Ex F.B H (upd H p o) := Ex.new hp
  refine ⟨e.ex.trans x, e.len, .inl e.ob, .inl e.ol, fun c z => ?_, fun j w hj => ?_, fun j w hj => ?_, e.uniq, fun q hq => ((e.gh q hq).sub s (.inl (.inl e.ob))).ex x (.inl (.inl e.ob))⟩
  · rcases z with z | z
    · rw [upd_ne (fun q => e.oa c z (by rw [q]; exact hp))]
      exact e.oa c z
    · rw [z, upd_same]; simp
  · obtain ⟨v, h1, h2⟩ := e.val j w hj
    exact ⟨v, h1, (h2.sub s (.inl (.inl e.ob))).ex x (.inl (.inl e.ob))⟩
  · obtain ⟨c, h1, h2, h3, h4⟩ := e.own j w hj
    exact ⟨c, h1, (h2.sub s (.inl (.inl e.ob))).ex x (.inl (.inl e.ob)) (e.nb h4).1, h3, fun z => z.elim h4 fun q => h2.there (by rw [q]; exact hp)⟩
/-- the barred list is changed -/
theorem EnvOk.barMut {p : Addr} {u o : HO} (e : EnvOk (F.bar p) H σ ρ) (hp : H p = some u) (hk : MutO u) (h0 : F.H0 p = none) (nb : p ≠ F.B.b) (nl : p ≠ F.B.l) : EnvOk (F.bar p) (upd H p o) σ ρ := by
  have op : OS (F.bar p) σ ρ p := .inl (.inr rfl)
  refine ⟨e.ex.mutN h0 nb nl, e.len, e.ob, e.ol, fun c z => ?_, fun j w hj => ?_, fun j w hj => ?_, e.uniq, fun q hq => (e.gh q hq).mut op hp hk nb nl⟩
  · by_cases q : c = p
    · rw [q, upd_same]; simp
    · rw [upd_ne q]; exact e.oa c z
  · obtain ⟨v, h1, h2⟩ := e.val j w hj
    exact ⟨v, h1, h2.mut op hp hk nb nl⟩
  · obtain ⟨c, h1, h2, h3, h4⟩ := e.own j w hj
    have nc : c ≠ p := fun q => h4 (.inr q)
    exact ⟨c, h1, h2.mut nc op hp hk nb nl, h3, h4⟩
end
end HD
/-! HD2: what a piece of syntax asks, told over data (D) and slots (Rho) alone. -/
namespace HD
open PySem L2
abbrev Err := Str × D
abbrev DE := Rho → (Err → Prop) → (D → Prop) → Prop
abbrev DT := Rho → (Err → Prop) → (Bool → Prop) → Prop
abbrev DA := Rho → (Err → Prop) → (List D → Prop) → Prop
structure DEnds where
  nx : Rho → Prop
  rt : D → Prop
  bk : Rho → Prop
  ct : Rho → Prop
  ex : Rho → Err → Prop
abbrev DS := DEnds → Rho → Prop
abbrev DFn := List D → (Err → Prop) → (D → Prop) → Prop
abbrev D2 := D → D → (D → Prop) → Prop
/-- the field of an error of this class -/
def fldOf (c : Str) : Str := if c = "TooMany" then "limit" else if c ∈ (["BadText", "BadHearing", "BadSteps", "BadSessions", "BadRun", "BadPromises"] : List Str) then "at" else "value"
section
variable (F : Fx) (Cl : Str → Addr) (W : WX)
def XO (σ : L2.St) (H : Hp) (ρ : Rho) (Xd : Err → Prop) : Prop := ∀ e, Xd e → ∀ dd v H', Ex F.B H H' → H' dd = some (.xd [(fldOf e.1, v)]) → Is F.B (OS F σ ρ) F.K H' v e.2 → W (.ref (Cl e.1)) (some dd) σ H'
def upE (de : DE) : TE := fun σ H Q => ∃ ρ Xd Qd, EnvOk F H σ ρ ∧ de ρ Xd Qd ∧ XO F Cl W σ H ρ Xd ∧ ∀ d, Qd d → ∀ v H', Ex F.B H H' → Is F.B (OS F σ ρ) F.K H' v d → Q v H'
def upT (dt : DT) : TT := fun σ H Q => ∃ ρ Xd Qd, EnvOk F H σ ρ ∧ dt ρ Xd Qd ∧ XO F Cl W σ H ρ Xd ∧ ∀ c, Qd c → ∀ H', Ex F.B H H' → Q c H'
def upA (da : DA) : TA := fun σ H Q => ∃ ρ Xd Qd, EnvOk F H σ ρ ∧ da ρ Xd Qd ∧ XO F Cl W σ H ρ Xd ∧ ∀ ds, Qd ds → ∀ vs H', Ex F.B H H' → IsL F.B (OS F σ ρ) F.K H' vs ds → Q vs H'
/-- a new list or dict, known to nobody yet -/
def upN (de : DE) : TE := fun σ H Q => ∃ ρ Xd Qd, EnvOk F H σ ρ ∧ de ρ Xd Qd ∧ XO F Cl W σ H ρ Xd ∧ ∀ d, Qd d → ∀ a H', Ex F.B H H' → H a = none → OwnN F.B (OS F σ ρ) F.K H' a d → Q (.ref a) H'
def upS (ds : DS) : TS := fun D σ H => ∃ ρ De, EnvOk F H σ ρ ∧ ds De ρ ∧
  (∀ ρ', De.nx ρ' → ∀ σ' H', EnvOk F H' σ' ρ' → D.nx σ' H') ∧ (∀ d, De.rt d → ∀ v H', Ex F.B F.H0 H' → Is F.B F.O F.K H' v d → F.R d v H' → D.rt v H') ∧
  (∀ ρ', De.bk ρ' → ∀ σ' H', EnvOk F H' σ' ρ' → D.bk σ' H') ∧ (∀ ρ', De.ct ρ' → ∀ σ' H', EnvOk F H' σ' ρ' → D.ct σ' H') ∧
  (∀ ρ' e, De.ex ρ' e → ∀ σ' H' dd v, EnvOk F H' σ' ρ' → H' dd = some (.xd [(fldOf e.1, v)]) → Is F.B (OS F σ' ρ') F.K H' v e.2 → W (.ref (Cl e.1)) (some dd) σ' H')
end
section
variable {X : Cx} {F : Fx} {Cl : Str → Addr} {W : WX}
theorem XO.ex {σ : L2.St} {H H' : Hp} {ρ : Rho} {Xd : Err → Prop} (h : XO F Cl W σ H ρ Xd) (x : Ex F.B H H') : XO F Cl W σ H' ρ Xd := fun e he dd v H2 x2 => h e he dd v H2 (x.trans x2)
theorem pe_imp {e : Expr} {t t' : TE} (h : PE X e t) (q : ∀ σ H Q, t' σ H Q → t σ H Q) : PE X e t' := ⟨fun pins s σ H Q I z => h.run pins s σ H Q I (q σ H Q z)⟩
theorem pt_imp {e : Expr} {t t' : TT} (h : PT X e t) (q : ∀ σ H Q, t' σ H Q → t σ H Q) : PT X e t' := ⟨fun pins s σ H Q I z => h.run pins s σ H Q I (q σ H Q z)⟩
theorem pw_imp {e : Expr} {t t' : TT} (h : PW X e t) (q : ∀ σ H Q, t' σ H Q → t σ H Q) : PW X e t' := ⟨fun wh pins s σ H Q I z => h.run wh pins s σ H Q I (q σ H Q z)⟩
theorem pa_imp {e : List Expr} {t t' : TA} (h : PA X e t) (q : ∀ σ H Q, t' σ H Q → t σ H Q) : PA X e t' := ⟨fun pos pins s σ H Q I z => h.run pos pins s σ H Q I (q σ H Q z)⟩
theorem ps_imp {st : Stmt} {t t' : TS} (h : PS X st t) (q : ∀ D σ H, t' D σ H → t D σ H) : PS X st t' := ⟨fun pins s σ H D I z => h.run pins s σ H D I (q D σ H z)⟩
theorem pss_imp {st : List Stmt} {t t' : TS} (h : PSs X st t) (q : ∀ D σ H, t' D σ H → t D σ H) : PSs X st t' := ⟨fun pins s σ H D I z => h.run pins s σ H D I (q D σ H z)⟩
theorem pts_imp {es : List Expr} {t t' : TT} (h : PTs X es t) (q : ∀ σ H Q, t' σ H Q → t σ H Q) : PTs X es t' := ⟨fun pins s σ H Q I z => h.run pins s σ H Q I (q σ H Q z)⟩
/-! ### names, constants -/
def dVar (i : Nat) : DE := fun ρ _ Q => ∃ d, ρ[i]? = some (some (.val d)) ∧ Q d
def dC (d : D) : DE := fun _ _ Q => Q d
theorem xVar {e : Expr} {i : Nat} (h : PE X e (tVar i)) : PE X e (upE F Cl W (dVar i)) := pe_imp h fun σ H Q ⟨ρ, Xd, Qd, env, ⟨d, h1, h2⟩, xo, k⟩ => by
  obtain ⟨v, hv, is⟩ := env.val i d h1
  exact ⟨v, hv, k d h2 v H (Ex.refl _ _) is⟩
theorem okS_by {s : Str} (h : (decide (s.length ≤ 1000) && PySem.PyData.strOk s) = true) : okS s := by
  obtain ⟨h1, h2⟩ := Bool.and_eq_true_iff.mp h
  exact ⟨Nat.le_trans (of_decide_eq_true h1) (by rw [sizeLine_eq]; decide), h2⟩
theorem xInt {i : Int} {j pos} : PE X (.Constant (.int i) j pos) (upE F Cl W (dC (.int i))) := pe_imp pe_int fun σ H Q ⟨ρ, Xd, Qd, env, h1, xo, k⟩ => k _ h1 _ H (Ex.refl _ _) (.int i)
theorem xBl {b : Bool} {j pos} : PE X (.Constant (.bool b) j pos) (upE F Cl W (dC (.bl b))) := pe_imp pe_bl fun σ H Q ⟨ρ, Xd, Qd, env, h1, xo, k⟩ => k _ h1 _ H (Ex.refl _ _) (.bl b)
theorem xNon {j pos} : PE X (.Constant .none j pos) (upE F Cl W (dC .non)) := pe_imp pe_non fun σ H Q ⟨ρ, Xd, Qd, env, h1, xo, k⟩ => k _ h1 _ H (Ex.refl _ _) .non
theorem xStr {s : Str} {j pos} (h : okS s) : PE X (.Constant (.str s) j pos) (upE F Cl W (dC (.str s))) := pe_imp pe_str fun σ H Q ⟨ρ, Xd, Qd, env, h1, xo, k⟩ => k _ h1 _ H (Ex.refl _ _) (.str s h)
/-! ### two-place operations -/
/-- the operation on values is the one on data -/
def OpS (B : Bg) (K : PySem.W.Frag) (r : R2) (r' : D2) : Prop := ∀ (O : Addr → Prop) (H : Hp) (x y : V) (dx dy : D) (Qd : D → Prop) (Q : VK), O B.b → (∀ a, O a → H a ≠ none) → Is B O K H x dx → Is B O K H y dy → r' dx dy Qd →
  (∀ d, Qd d → ∀ v H', Ex B H H' → Is B O K H' v d → Q v H') → r x y H Q
def dOp (r : D2) (da db : DE) : DE := fun ρ Xd Q => da ρ Xd fun x => db ρ Xd fun y => r x y Q
theorem up_op {r : R2} {r' : D2} {da db : DE} (hs : OpS F.B F.K r r') : ∀ σ H Q, upE F Cl W (dOp r' da db) σ H Q → tOp r (upE F Cl W da) (upE F Cl W db) σ H Q := fun σ H Q ⟨ρ, Xd, Qd, env, h1, xo, k⟩ =>
  ⟨ρ, Xd, _, env, h1, xo, fun dx hx x H1 e1 i1 => ⟨ρ, Xd, _, env.ex' e1, hx, xo.ex e1, fun dy hy y H2 e2 i2 => by
    have env2 := (env.ex' e1).ex' e2
    exact hs _ H2 x y dx dy Qd Q env2.osb env2.oall (i1.ex e2 env.osb) i2 hy fun d hd v H' e3 i3 => k d hd v H' ((e1.trans e2).trans e3) i3⟩⟩
theorem xOp {a b : Expr} {op : Operator} {pos : Pos} {r : R2} {r' : D2} {da db : DE} (ho : OpR X (binaryOp op) r) (hs : OpS F.B F.K r r') (ha : PE X a (upE F Cl W da)) (hb : PE X b (upE F Cl W db)) : PE X (.BinOp a op b pos) (upE F Cl W (dOp r' da db)) := pe_imp (pe_op ho ha hb) (up_op hs)
theorem xCmp {a b : Expr} {op : CmpOp} {pos : Pos} {r : R2} {r' : D2} {da db : DE} (ho : OpR X (compareOp op) r) (hs : OpS F.B F.K r r') (ha : PE X a (upE F Cl W da)) (hb : PE X b (upE F Cl W db)) (hm : behindInMarks op b = false) : PE X (.Compare a [op] [b] pos) (upE F Cl W (dOp r' da db)) := pe_imp (pe_cmpR ho ha hb hm) (up_op hs)
def dTest (de : DE) : DT := fun ρ Xd Q => de ρ Xd fun d => ∃ c, d = .bl c ∧ Q c
theorem up_test {de : DE} : ∀ σ H Q, upT F Cl W (dTest de) σ H Q → upE F Cl W de σ H fun x H' => ∃ c, x = .bl c ∧ Q c H' := fun σ H Q ⟨ρ, Xd, Qd, env, h1, xo, k⟩ => ⟨ρ, Xd, _, env, h1, xo, fun d ⟨c, hc, q⟩ v H' e i => by
  subst hc
  cases i
  exact ⟨c, rfl, k c q H' e⟩⟩
theorem yCmp {a b : Expr} {op : CmpOp} {pos : Pos} {r : R2} {r' : D2} {da db : DE} (ho : OpR X (compareOp op) r) (hs : OpS F.B F.K r r') (ha : PE X a (upE F Cl W da)) (hb : PE X b (upE F Cl W db)) (hm : behindInMarks op b = false) : PT X (.Compare a [op] [b] pos) (upT F Cl W (dTest (dOp r' da db))) :=
  pt_imp (pt_cmpR ho ha hb hm) fun σ H Q h => up_op hs σ H _ (up_test σ H Q h)
theorem yVal {e : Expr} {de : DE} (h : PE X e (upE F Cl W de)) (he : ∀ whole, isTrue e X.env whole = (do let v ← whole; standAt e.pos; holding [v] (truthy v)) := by intro _; rfl) : PT X e (upT F Cl W (dTest de)) :=
  pt_imp (pt_val h he) up_test
/-- a <= b <= c -/
def dChain (r r' : D2) (da db dc : DE) : DE := fun ρ Xd Q => da ρ Xd fun x => db ρ Xd fun y => r x y fun z => ∃ c, z = .bl c ∧ if c = true then dc ρ Xd fun w => r' y w Q else Q (.bl false)
theorem up_chain {r q : R2} {r' q' : D2} {da db dc : DE} (hs : OpS F.B F.K r r') (hq : OpS F.B F.K q q') : ∀ σ H Q, upE F Cl W (dChain r' q' da db dc) σ H Q → tChain r q (upE F Cl W da) (upE F Cl W db) (upE F Cl W dc) σ H Q := fun σ H Q ⟨ρ, Xd, Qd, env, h1, xo, k⟩ =>
  ⟨ρ, Xd, _, env, h1, xo, fun dx hx x H1 e1 i1 => ⟨ρ, Xd, _, env.ex' e1, hx, xo.ex e1, fun dy hy y H2 e2 i2 => by
    have env2 := (env.ex' e1).ex' e2
    refine hs _ H2 x y dx dy _ _ env2.osb env2.oall (i1.ex e2 env.osb) i2 hy fun d hd v H3 e3 i3 => ?_
    obtain ⟨c, rfl, hc⟩ := hd
    cases i3
    refine ⟨c, rfl, ?_⟩
    have e13 := (e1.trans e2).trans e3
    cases c with
    | false => exact k _ hc _ H3 e13 (.bl false)
    | true =>
      refine ⟨ρ, Xd, _, env.ex' e13, hc, xo.ex e13, fun dw hw w H4 e4 i4 => ?_⟩
      have env4 := (env.ex' e13).ex' e4
      exact hq _ H4 y w dy dw Qd Q env4.osb env4.oall ((i2.ex e3 env.osb).ex e4 env.osb) i4 hw fun d hd v H5 e5 i5 => k d hd v H5 ((e13.trans e4).trans e5) i5⟩⟩
theorem yChain {a b c : Expr} {op op' : CmpOp} {pos : Pos} {r q : R2} {r' q' : D2} {da db dc : DE} (ho : OpR X (compareOp op) r) (hs : OpS F.B F.K r r') (ho' : OpR X (compareOp op') q) (hq : OpS F.B F.K q q') (ha : PE X a (upE F Cl W da)) (hb : PE X b (upE F Cl W db)) (hc : PE X c (upE F Cl W dc))
    (hm : lastMarks [op, op'] [b, c] = false := by rfl) : PT X (.Compare a [op, op'] [b, c] pos) (upT F Cl W (dTest (dChain r' q' da db dc))) := pt_imp (pt_chain ho ho' ha hb hc (hm := hm)) fun σ H Q h => up_chain hs hq σ H _ (up_test σ H Q h)
/-! ### and, or, not, if -/
def dAnd (a b : DT) : DT := fun ρ Xd Q => a ρ Xd fun c => if c = true then b ρ Xd Q else Q false
def dOr (a b : DT) : DT := fun ρ Xd Q => a ρ Xd fun c => if c = true then Q true else b ρ Xd Q
def dNot (a : DT) : DT := fun ρ Xd Q => a ρ Xd fun c => Q (!c)
def dAndV (a b : DE) : DE := fun ρ Xd Q => a ρ Xd fun x => ∃ c, x = .bl c ∧ if c = true then b ρ Xd Q else Q (.bl false)
def dOrV (a b : DE) : DE := fun ρ Xd Q => a ρ Xd fun x => ∃ c, x = .bl c ∧ if c = true then Q (.bl true) else b ρ Xd Q
def dNotV (a : DE) : DE := fun ρ Xd Q => a ρ Xd fun x => ∃ c, x = .bl c ∧ Q (.bl (!c))
def dIf (t : DT) (a b : DE) : DE := fun ρ Xd Q => t ρ Xd fun c => if c = true then a ρ Xd Q else b ρ Xd Q
theorem wAnd1 {a : Expr} {pos : Pos} {da : DT} (ha : PT X a (upT F Cl W da)) : PW X (.BoolOp .And [a] pos) (upT F Cl W da) := pw_and1 ha
theorem wOr1 {a : Expr} {pos : Pos} {da : DT} (ha : PT X a (upT F Cl W da)) : PW X (.BoolOp .Or [a] pos) (upT F Cl W da) := pw_or1 ha
theorem wAnd {a b : Expr} {rest : List Expr} {pos : Pos} {da db : DT} (ha : PT X a (upT F Cl W da)) (hb : PW X (.BoolOp .And (b :: rest) pos) (upT F Cl W db)) : PW X (.BoolOp .And (a :: b :: rest) pos) (upT F Cl W (dAnd da db)) :=
  pw_imp (pw_and ha hb) fun σ H Q ⟨ρ, Xd, Qd, env, h1, xo, k⟩ => ⟨ρ, Xd, _, env, h1, xo, fun c hc H1 e1 => by
    cases c with
    | true => exact ⟨ρ, Xd, Qd, env.ex' e1, hc, xo.ex e1, fun c' hc' H2 e2 => k c' hc' H2 (e1.trans e2)⟩
    | false => exact k false hc H1 e1⟩
theorem wOr {a b : Expr} {rest : List Expr} {pos : Pos} {da db : DT} (ha : PT X a (upT F Cl W da)) (hb : PW X (.BoolOp .Or (b :: rest) pos) (upT F Cl W db)) : PW X (.BoolOp .Or (a :: b :: rest) pos) (upT F Cl W (dOr da db)) :=
  pw_imp (pw_or ha hb) fun σ H Q ⟨ρ, Xd, Qd, env, h1, xo, k⟩ => ⟨ρ, Xd, _, env, h1, xo, fun c hc H1 e1 => by
    cases c with
    | true => exact k true hc H1 e1
    | false => exact ⟨ρ, Xd, Qd, env.ex' e1, hc, xo.ex e1, fun c' hc' H2 e2 => k c' hc' H2 (e1.trans e2)⟩⟩
theorem yW {e : Expr} {dt : DT} (h : PW X e (upT F Cl W dt)) : PT X e (upT F Cl W dt) := h.pt
theorem yNot {a : Expr} {pos : Pos} {da : DT} (ha : PT X a (upT F Cl W da)) : PT X (.UnaryOp .Not a pos) (upT F Cl W (dNot da)) :=
  pt_imp (pt_not ha) fun σ H Q ⟨ρ, Xd, Qd, env, h1, xo, k⟩ => ⟨ρ, Xd, _, env, h1, xo, fun c hc H1 e1 => k _ hc H1 e1⟩
theorem xOne {a : Expr} {op} {pos : Pos} {da : DE} (ha : PE X a (upE F Cl W da)) : PE X (.BoolOp op [a] pos) (upE F Cl W da) := pe_one ha
theorem xAnd {a b : Expr} {rest : List Expr} {pos : Pos} {da db : DE} (ha : PE X a (upE F Cl W da)) (hb : PE X (.BoolOp .And (b :: rest) pos) (upE F Cl W db)) : PE X (.BoolOp .And (a :: b :: rest) pos) (upE F Cl W (dAndV da db)) :=
  pe_imp (pe_and ha hb) fun σ H Q ⟨ρ, Xd, Qd, env, h1, xo, k⟩ => ⟨ρ, Xd, _, env, h1, xo, fun d ⟨c, hd, hc⟩ v H1 e1 i1 => by
    subst hd
    cases i1
    refine ⟨c, rfl, ?_⟩
    cases c with
    | true => exact ⟨ρ, Xd, Qd, env.ex' e1, hc, xo.ex e1, fun d' hd' v' H2 e2 i2 => k d' hd' v' H2 (e1.trans e2) i2⟩
    | false => exact k _ hc _ H1 e1 (.bl false)⟩
theorem xOr {a b : Expr} {rest : List Expr} {pos : Pos} {da db : DE} (ha : PE X a (upE F Cl W da)) (hb : PE X (.BoolOp .Or (b :: rest) pos) (upE F Cl W db)) : PE X (.BoolOp .Or (a :: b :: rest) pos) (upE F Cl W (dOrV da db)) :=
  pe_imp (pe_or ha hb) fun σ H Q ⟨ρ, Xd, Qd, env, h1, xo, k⟩ => ⟨ρ, Xd, _, env, h1, xo, fun d ⟨c, hd, hc⟩ v H1 e1 i1 => by
    subst hd
    cases i1
    refine ⟨c, rfl, ?_⟩
    cases c with
    | false => exact ⟨ρ, Xd, Qd, env.ex' e1, hc, xo.ex e1, fun d' hd' v' H2 e2 i2 => k d' hd' v' H2 (e1.trans e2) i2⟩
    | true => exact k _ hc _ H1 e1 (.bl true)⟩
theorem xIf {c a b : Expr} {pos : Pos} {t : DT} {da db : DE} (hc : PT X c (upT F Cl W t)) (ha : PE X a (upE F Cl W da)) (hb : PE X b (upE F Cl W db)) : PE X (.IfExp c a b pos) (upE F Cl W (dIf t da db)) :=
  pe_imp (pe_ifExp hc ha hb) fun σ H Q ⟨ρ, Xd, Qd, env, h1, xo, k⟩ => ⟨ρ, Xd, _, env, h1, xo, fun c hc H1 e1 => by
    cases c with
    | true => exact ⟨ρ, Xd, Qd, env.ex' e1, hc, xo.ex e1, fun d' hd' v' H2 e2 i2 => k d' hd' v' H2 (e1.trans e2) i2⟩
    | false => exact ⟨ρ, Xd, Qd, env.ex' e1, hc, xo.ex e1, fun d' hd' v' H2 e2 i2 => k d' hd' v' H2 (e1.trans e2) i2⟩⟩
/-! ### arguments, displays -/
def dNil : DA := fun _ _ Q => Q []
def dCons (de : DE) (da : DA) : DA := fun ρ Xd Q => de ρ Xd fun x => da ρ Xd fun xs => Q (x :: xs)
theorem aNil : PA X [] (upA F Cl W dNil) := pa_imp pa_nil fun σ H Q ⟨ρ, Xd, Qd, env, h1, xo, k⟩ => k _ h1 [] H (Ex.refl _ _) .nil
theorem aCons {e : Expr} {es : List Expr} {de : DE} {da : DA} (ha : PE X e (upE F Cl W de)) (hr : PA X es (upA F Cl W da)) (hs : starEach (e :: es) X.env = (false, eval e X.env) :: starEach es X.env := by rfl) : PA X (e :: es) (upA F Cl W (dCons de da)) :=
  pa_imp (pa_cons ha hr hs) fun σ H Q ⟨ρ, Xd, Qd, env, h1, xo, k⟩ => ⟨ρ, Xd, _, env, h1, xo, fun d hd v H1 e1 i1 => ⟨ρ, Xd, _, env.ex' e1, hd, xo.ex e1, fun ds hds vs H2 e2 i2 => k _ hds _ H2 (e1.trans e2) (.cons (i1.ex e2 env.osb) i2)⟩⟩
def dTup (da : DA) : DE := fun ρ Xd Q => da ρ Xd fun ds => ds.length ≤ sizeLine ∧ Q (.tup ds)
def dLst (da : DA) : DE := fun ρ Xd Q => da ρ Xd fun ds => ds.length ≤ sizeLine ∧ Q (.lst ds)
theorem xTup {es : List Expr} {x1 pos} {da : DA} (h : PA X es (upA F Cl W da)) : PE X (.Tuple es x1 pos) (upE F Cl W (dTup da)) :=
  pe_imp (pe_tup h) fun σ H Q ⟨ρ, Xd, Qd, env, h1, xo, k⟩ => ⟨ρ, Xd, _, env, h1, xo, fun ds ⟨hz, hd⟩ vs H1 e1 i1 => ⟨by rw [i1.length]; exact hz, fun p hp =>
    k _ hd _ _ (e1.trans (Ex.new hp)) (.tup (SqT.of upd_same) (i1.ex (Ex.new hp) env.osb))⟩⟩
theorem nLst {es : List Expr} {pos} {da : DA} (h : PA X es (upA F Cl W da)) : PE X (.List es pos) (upN F Cl W (dLst da)) :=
  pe_imp (pe_lst h) fun σ H Q ⟨ρ, Xd, Qd, env, h1, xo, k⟩ => ⟨ρ, Xd, _, env, h1, xo, fun ds ⟨hz, hd⟩ vs H1 e1 i1 => ⟨by rw [i1.length]; exact hz, fun p hp =>
    k _ hd p _ (e1.trans (Ex.new hp)) (e1.free hp) (own_new i1 hp env.osb)⟩⟩
/-- what is new is a value -/
theorem xNew {e : Expr} {de : DE} (h : PE X e (upN F Cl W de)) : PE X e (upE F Cl W de) := pe_imp h fun σ H Q ⟨ρ, Xd, Qd, env, h1, xo, k⟩ => ⟨ρ, Xd, Qd, env, h1, xo, fun d hd a H' e n o =>
  k d hd _ H' e (OwnAt.is o (fun _ z => .inl z) env.osb fun z => env.oall a z n)⟩
end
end HD
/-! HD3: operations, subscripts, built-in functions on data. -/
namespace HD
open PySem L2
mutual
/-- no dict, no type, no bag in it -/
def okD : D → Bool
  | .non => true
  | .bl _ => true
  | .int _ => true
  | .str _ => true
  | .tup xs => okDs xs
  | .lst xs => okDs xs
  | .dct _ => false
  | .obj _ _ => false
  | .ty _ => false
  | .bag => false
  | .raw _ => false
  | .err _ _ => false
  | .exo _ _ _ => false
  | .duo _ _ _ => false
def okDs : List D → Bool
  | [] => true
  | x :: xs => okD x && okDs xs
end
def eqD (x y : D) : Bool := PyData.eqv (toP x) (toP y)
def depD (x : D) : Nat := (toP x).depth
section
variable {B : Bg} {O : Addr → Prop} {K : PySem.W.Frag} {H : Hp}
mutual
theorem Is.dp : ∀ {v : V} {d : D}, Is B O K H v d → okD d = true → Dp K H v (toP d) ∧ (toP d).canLay0 = true
  | _, _, .non, _ => ⟨.non, by simp only [toP, PyData.canLay0]⟩
  | _, _, .bl c, _ => ⟨.bl c, by simp only [toP, PyData.canLay0]⟩
  | _, _, .int i, _ => ⟨.int i, by simp only [toP, PyData.canLay0]⟩
  | _, _, .str s h, _ => ⟨.str s, by simp only [toP, PyData.canLay0]; exact h.2⟩
  | _, _, .ty n, h => by simp [okD] at h
  | _, _, .tup h r, z => by
    have q := IsL.dp r (by simpa only [okD] using z)
    exact ⟨.tup h q.1, by simp only [toP, PyData.canLay0]; exact q.2⟩
  | _, _, .lst h n r, z => by
    have q := IsL.dp r (by simpa only [okD] using z)
    exact ⟨.lst (SqL.of h) q.1, by simp only [toP, PyData.canLay0]; exact q.2⟩
  | _, _, .dct h n q r1 r2, z => by simp [okD] at z
  | _, _, .obj h n l r, z => by simp [okD] at z
  | _, _, .bag h o, z => by simp [okD] at z
  | _, _, .raw a, z => by simp [okD] at z
  | _, _, .err h r, z => by simp [okD] at z
  | _, _, .exo h n r, z => by simp [okD] at z
  | _, _, .duo h1 h2, z => by simp [okD] at z
theorem IsL.dp : ∀ {vs : List V} {ds : List D}, IsL B O K H vs ds → okDs ds = true → DpAll K H vs (toPs ds) ∧ PyData.canLayAll0 (toPs ds) = true
  | _, _, .nil, _ => ⟨.nil, by simp only [toPs, PyData.canLayAll0]⟩
  | _, _, .cons h r, z => by
    obtain ⟨z1, z2⟩ := Bool.and_eq_true_iff.mp (by simpa only [okDs] using z)
    have q1 := Is.dp h z1
    have q2 := IsL.dp r z2
    exact ⟨.cons q1.1 q2.1, by simp only [toPs, PyData.canLayAll0, q1.2, q2.2, Bool.and_self]⟩
end
end
section
variable {X : Cx}
def rEqM (K : PySem.W.Frag) : R2 := fun x y H Q => ∃ d e, Dp K H x d ∧ Dp K H y e ∧ d.canLay0 = true ∧ e.canLay0 = true ∧ min d.depth e.depth ≤ 190 ∧ Q (.bl (PyData.eqv d e)) H
def rNeM (K : PySem.W.Frag) : R2 := fun x y H Q => ∃ d e, Dp K H x d ∧ Dp K H y e ∧ d.canLay0 = true ∧ e.canLay0 = true ∧ min d.depth e.depth ≤ 190 ∧ Q (.bl (!PyData.eqv d e)) H
theorem op_eqM (hu : X.A.units + 190 < cLine) : OpR X (compareOp .Eq) (rEqM X.K) := by
  rintro pins s σ H x y v u Q I rx ry ⟨d, e, hd, he, sd, se, hm, q⟩
  obtain ⟨as, r1⟩ := Dp.reads I d x v hd rx
  obtain ⟨bs, r2⟩ := Dp.reads I e y u he ry
  exact SeqAt.compareEq_reads r1 r2 sd se (by omega) ⟨.bl _, H, I, rfl, q⟩
theorem op_neM (hu : X.A.units + 190 < cLine) : OpR X (compareOp .NotEq) (rNeM X.K) := by
  rintro pins s σ H x y v u Q I rx ry ⟨d, e, hd, he, sd, se, hm, q⟩
  obtain ⟨as, r1⟩ := Dp.reads I d x v hd rx
  obtain ⟨bs, r2⟩ := Dp.reads I e y u he ry
  exact SeqAt.compareNe_reads r1 r2 sd se (by omega) ⟨.bl _, H, I, rfl, q⟩
end
/-- an operation of Python and the one on data -/
def OpD (X : Cx) (B : Bg) (f : Value → Value → Sem Value) (r' : D2) : Prop := ∃ r, OpR X f r ∧ OpS B X.K r r'
section
variable {X : Cx} {B : Bg}
def rEq : D2 := fun x y Q => okD x = true ∧ okD y = true ∧ min (depD x) (depD y) ≤ 190 ∧ Q (.bl (eqD x y))
def rNe : D2 := fun x y Q => okD x = true ∧ okD y = true ∧ min (depD x) (depD y) ≤ 190 ∧ Q (.bl (!eqD x y))
theorem oEq (hu : X.A.units + 190 < cLine) : OpD X B (compareOp .Eq) rEq := ⟨_, op_eqM hu, fun O H x y dx dy Qd Q ob oa ix iy ⟨kx, ky, hm, q⟩ k =>
  ⟨toP dx, toP dy, (ix.dp kx).1, (iy.dp ky).1, (ix.dp kx).2, (iy.dp ky).2, hm, k _ q _ H (Ex.refl _ _) (.bl _)⟩⟩
theorem oNe (hu : X.A.units + 190 < cLine) : OpD X B (compareOp .NotEq) rNe := ⟨_, op_neM hu, fun O H x y dx dy Qd Q ob oa ix iy ⟨kx, ky, hm, q⟩ k =>
  ⟨toP dx, toP dy, (ix.dp kx).1, (iy.dp ky).1, (ix.dp kx).2, (iy.dp ky).2, hm, k _ q _ H (Ex.refl _ _) (.bl _)⟩⟩
/-- two ints -/
def rInts (C : Int → Int → Prop) (g : Int → Int → D) : D2 := fun x y Q => ∃ i j, x = .int i ∧ y = .int j ∧ C i j ∧ Q (g i j)
def CT : Int → Int → Prop := fun _ _ => True
theorem oInts0 {f : Value → Value → Sem Value} {g : Int → Int → V} {g' : Int → Int → D} (h : OpR X f (rI0 g)) (hg : ∀ i j B O K H, Is B O K H (g i j) (g' i j)) : OpD X B f (rInts CT g') := ⟨_, h, fun O H x y dx dy Qd Q ob oa ix iy ⟨i, j, ex, ey, hc, q⟩ k => by
  subst ex ey
  cases ix
  cases iy
  exact ⟨i, j, rfl, rfl, k _ q _ H (Ex.refl _ _) (hg i j _ _ _ _)⟩⟩
theorem oSub : OpD X B (binaryOp .Sub) (rInts CT fun i j => .int (i - j)) := oInts0 op_sub fun _ _ _ _ _ _ => .int _
theorem oLt : OpD X B (compareOp .Lt) (rInts CT fun i j => .bl (decide (i < j))) := oInts0 op_lt fun _ _ _ _ _ _ => .bl _
theorem oLe : OpD X B (compareOp .LtE) (rInts CT fun i j => .bl (decide (i ≤ j))) := oInts0 op_le fun _ _ _ _ _ _ => .bl _
theorem oGt : OpD X B (compareOp .Gt) (rInts CT fun i j => .bl (decide (j < i))) := oInts0 op_gt fun _ _ _ _ _ _ => .bl _
/-- a + b: ints, texts, tuples, lists -/
def rAdd : D2 := fun x y Q => match x, y with
  | .int i, .int j => Q (.int (i + j))
  | .str s, .str t => okS (s ++ t) ∧ Q (.str (s ++ t))
  | .tup xs, .tup ys => xs.length + ys.length ≤ sizeLine ∧ Q (.tup (xs ++ ys))
  | .lst xs, .lst ys => xs.length + ys.length ≤ sizeLine ∧ Q (.lst (xs ++ ys))
  | _, _ => False
theorem str_len (s t : Str) : (s ++ t).length = s.length + t.length := by
  show (Str.append s t).cps.size = _
  simp [Str.append, Str.length]
theorem oAdd : OpD X B (binaryOp .Add) rAdd := by
  refine ⟨_, OpR.or op_add (OpR.or op_add_str (OpR.or op_catA op_cat)), fun O H x y dx dy Qd Q ob oa ix iy h k => ?_⟩
  cases ix with
  | int i =>
    cases iy with
    | int j => exact .inl ⟨i, j, rfl, rfl, k _ h _ H (Ex.refl _ _) (.int _)⟩
    | _ => exact h.elim
  | str s hs =>
    cases iy with
    | str t ht => exact .inr (.inl ⟨s, t, rfl, rfl, by rw [← str_len]; exact h.1.1, k _ h.2 _ H (Ex.refl _ _) (.str _ h.1)⟩)
    | _ => exact h.elim
  | tup ha ra =>
    cases iy with
    | tup hb rb =>
      rename_i a xs ds b ys es
      obtain ⟨hz, q⟩ := h
      refine .inr (.inr (.inl ⟨a, b, xs, ys, rfl, rfl, ha, hb, by rw [ra.length, rb.length]; exact hz, fun e => ?_, fun e1 e2 => ?_, fun e1 e2 p hp => ?_⟩))
      · subst e
        cases ra
        exact k _ q _ H (Ex.refl _ _) (.tup hb rb)
      · subst e2
        cases rb
        exact k _ (by rw [List.append_nil] at q; exact q) _ H (Ex.refl _ _) (.tup ha ra)
      · exact k _ q _ _ (Ex.new hp) (.tup (SqT.of upd_same) ((ra.append rb).ex (Ex.new hp) ob))
    | _ => exact h.elim
  | lst ha na ra =>
    cases iy with
    | lst hb nb rb =>
      rename_i a xs ds b ys es
      obtain ⟨hz, q⟩ := h
      refine .inr (.inr (.inr ⟨a, b, xs, ys, rfl, rfl, ha, hb, by rw [ra.length, rb.length]; exact hz, fun p hp => ?_⟩))
      exact k _ q _ _ (Ex.new hp) (.lst upd_same (fun z => oa p z hp) ((ra.append rb).ex (Ex.new hp) ob))
    | _ => exact h.elim
  | _ => exact h.elim
/-- x is None -/
def isNoneD : D → Bool
  | .non => true
  | _ => false
def rIs : D2 := fun x y Q => y = .non ∧ Q (.bl (isNoneD x))
def rIsNot : D2 := fun x y Q => y = .non ∧ Q (.bl (!isNoneD x))
theorem is_none {O : Addr → Prop} {K : PySem.W.Frag} {H : Hp} {x : V} {d : D} (h : Is B O K H x d) : decide (x = .non) = isNoneD d := by
  cases h <;> rfl
theorem oIs : OpD X B (compareOp .Is) rIs := ⟨_, op_isN, fun O H x y dx dy Qd Q ob oa ix iy ⟨e, q⟩ k => by
  subst e
  cases iy
  exact ⟨rfl, k _ (by rw [is_none ix]; exact q) _ H (Ex.refl _ _) (.bl _)⟩⟩
theorem oIsNot : OpD X B (compareOp .IsNot) rIsNot := ⟨_, op_notN, fun O H x y dx dy Qd Q ob oa ix iy ⟨e, q⟩ k => by
  subst e
  cases iy
  exact ⟨rfl, k _ (by rw [is_none ix]; exact q) _ H (Ex.refl _ _) (.bl _)⟩⟩
/-! ### in -/
def flatD : D → Bool
  | .non => true
  | .bl _ => true
  | .int _ => true
  | .str _ => true
  | _ => false
theorem flat_v {O : Addr → Prop} {K : PySem.W.Frag} {H : Hp} {x : V} {d : D} (h : Is B O K H x d) (f : flatD d = true) : flatV x = true := by
  cases h <;> first | rfl | cases f
theorem eq_flat {O : Addr → Prop} {K : PySem.W.Frag} {H : Hp} {x y : V} {d e : D} (h : Is B O K H x d) (g : Is B O K H y e) (f1 : flatD d = true) (f2 : flatD e = true) : eqV x y = eqD d e := by
  cases h <;> cases g <;> first | rfl | (cases f1; done) | (cases f2; done)
theorem flat_vs {O : Addr → Prop} {K : PySem.W.Frag} {H : Hp} : ∀ {xs : List V} {ds : List D}, IsL B O K H xs ds → ds.all flatD = true → xs.all flatV = true
  | _, _, .nil, _ => rfl
  | _, _, .cons h r, f => by
    rw [List.all_cons] at f ⊢
    obtain ⟨f1, f2⟩ := Bool.and_eq_true_iff.mp f
    rw [flat_v h f1, flat_vs r f2] <;> rfl
theorem in_flat {O : Addr → Prop} {K : PySem.W.Frag} {H : Hp} {y : V} {e : D} (g : Is B O K H y e) (f2 : flatD e = true) : ∀ {xs : List V} {ds : List D}, IsL B O K H xs ds → ds.all flatD = true → inV y xs = ds.any fun z => eqD z e
  | _, _, .nil, _ => rfl
  | _, _, .cons h r, f => by
    rw [List.all_cons] at f
    obtain ⟨f1, f3⟩ := Bool.and_eq_true_iff.mp f
    have q := in_flat g f2 r f3
    unfold inV at q ⊢
    rw [List.any_cons, List.any_cons, q, eq_flat h g f1 f2]
def deepIn (x : D) (ds : List D) : Prop := okD x = true ∧ okDs ds = true ∧ depD x ≤ 64 ∧ depD (.lst ds) ≤ 64
/-- a dict's entry -/
def lookD (kvs : List (D × D)) (k : D) : Option D := (kvs.find? fun p => eqD p.1 k).map (·.2)
def rIn (neg : Bool) : D2 := fun x y Q => match y with
  | .lst ds => ((flatD x = true ∧ ds.all flatD = true) ∨ deepIn x ds) ∧ Q (.bl (neg ^^ ds.any fun z => eqD z x))
  | .tup ds => (flatD x = true ∧ ds.all flatD = true) ∧ Q (.bl (neg ^^ ds.any fun z => eqD z x))
  | .str z => ∃ c, x = .str ⟨#[c]⟩ ∧ Q (.bl (neg ^^ decide (c ∈ z.cps.toList)))
  | .dct kvs => keyOk x ∧ Q (.bl (neg ^^ (lookD kvs x).isSome))
  | _ => False
mutual
theorem ok_of_hk : ∀ d : D, GD.hk (toP d) = true → okD d = true
  | .non, _ => by simp only [okD]
  | .bl _, h => by simp [toP, GD.hk] at h
  | .int _, _ => by simp only [okD]
  | .str _, _ => by simp only [okD]
  | .tup xs, h => by
    simp only [okD]
    exact oks_of_hk xs (by simpa only [toP, GD.hk] using h)
  | .lst _, h => by simp [toP, GD.hk] at h
  | .dct _, h => by simp [toP, GD.hk] at h
  | .obj _ _, h => by simp [toP, GD.hk] at h
  | .ty _, h => by simp [toP, GD.hk] at h
  | .bag, h => by simp [toP, GD.hk] at h
  | .raw _, h => by simp [toP, GD.hk] at h
  | .err _ _, h => by simp [toP, GD.hk] at h
  | .exo _ _ _, h => by simp [toP, GD.hk] at h
  | .duo _ _ _, h => by simp [toP, GD.hk] at h
theorem oks_of_hk : ∀ xs : List D, GD.hks (toPs xs) = true → okDs xs = true
  | [], _ => by simp only [okDs]
  | x :: xs, h => by
    have q : GD.hk (toP x) = true ∧ GD.hks (toPs xs) = true := by simpa only [toPs, GD.hks, Bool.and_eq_true] using h
    simp only [okDs, ok_of_hk x q.1, oks_of_hk xs q.2, Bool.and_self]
end
mutual
theorem toP_inj : ∀ d e : D, GD.hk (toP d) = true → toP d = toP e → d = e
  | .int _, e, _, h => by cases e <;> simp_all [toP]
  | .str _, e, _, h => by cases e <;> simp_all [toP]
  | .tup xs, .tup ys, k, h => by
    rw [toPs_inj xs ys (by simpa only [toP, GD.hk] using k) (by simpa only [toP, PyData.tuple.injEq] using h)]
  | .tup xs, .non, _, h => by simp [toP] at h
  | .tup xs, .bl _, _, h => by simp [toP] at h
  | .tup xs, .int _, _, h => by simp [toP] at h
  | .tup xs, .str _, _, h => by simp [toP] at h
  | .tup xs, .lst _, _, h => by simp [toP] at h
  | .tup xs, .dct _, _, h => by simp [toP] at h
  | .tup xs, .obj _ _, _, h => by simp [toP] at h
  | .tup xs, .ty _, _, h => by simp [toP] at h
  | .tup xs, .bag, _, h => by simp [toP] at h
  | .tup xs, .raw _, _, h => by simp [toP] at h
  | .tup xs, .err _ _, _, h => by simp [toP] at h
  | .tup xs, .exo _ _ _, _, h => by simp [toP] at h
  | .tup xs, .duo _ _ _, _, h => by simp [toP] at h
  | .non, e, _, h => by cases e <;> simp_all [toP]
  | .bl _, _, k, _ => by simp [toP, GD.hk] at k
  | .lst _, _, k, _ => by simp [toP, GD.hk] at k
  | .dct _, _, k, _ => by simp [toP, GD.hk] at k
  | .obj _ _, _, k, _ => by simp [toP, GD.hk] at k
  | .ty _, _, k, _ => by simp [toP, GD.hk] at k
  | .bag, _, k, _ => by simp [toP, GD.hk] at k
  | .raw _, _, k, _ => by simp [toP, GD.hk] at k
  | .err _ _, _, k, _ => by simp [toP, GD.hk] at k
  | .exo _ _ _, _, k, _ => by simp [toP, GD.hk] at k
  | .duo _ _ _, _, k, _ => by simp [toP, GD.hk] at k
theorem toPs_inj : ∀ xs ys : List D, GD.hks (toPs xs) = true → toPs xs = toPs ys → xs = ys
  | [], [], _, _ => rfl
  | [], _ :: _, _, h => by simp [toPs] at h
  | _ :: _, [], _, h => by simp [toPs] at h
  | x :: xs, y :: ys, k, h => by
    have q : GD.hk (toP x) = true ∧ GD.hks (toPs xs) = true := by simpa only [toPs, GD.hks, Bool.and_eq_true] using k
    have z : toP x = toP y ∧ toPs xs = toPs ys := by simpa only [toPs, List.cons.injEq] using h
    rw [toP_inj x y q.1 z.1, toPs_inj xs ys q.2 z.2]
end
theorem eq_key {x y : D} (hx : keyOk x) (hy : keyOk y) : (eqD x y = true) ↔ x = y := by
  unfold eqD
  exact ⟨fun z => toP_inj x y hx.1 (GD.eqv_imp _ _ hx.1 hy.1 z), fun z => by rw [z]; exact SeqAt.eqv_refl _ (GD.lay_of _ hy.1)⟩
section
variable {O : Addr → Prop} {K : PySem.W.Frag} {H : Hp}
theorem Is.key {v : V} {d : D} (h : Is B O K H v d) (k : keyOk d) : Dp K H v (toP d) := (h.dp (ok_of_hk d k.1)).1
theorem IsL.keys : ∀ {vs : List V} {ds : List D}, IsL B O K H vs ds → (∀ d ∈ ds, keyOk d) → ∀ (j : Nat) (v : V) (d : D), vs[j]? = some v → ds[j]? = some d → Dp K H v (toP d)
  | _, _, .nil, _, j, v, d, e, _ => by simp at e
  | _, _, .cons h r, k, 0, v, d, e, e2 => by
    simp only [List.getElem?_cons_zero, Option.some.injEq] at e e2
    subst e e2
    exact h.key (k _ List.mem_cons_self)
  | _, _, .cons h r, k, j + 1, v, d, e, e2 => IsL.keys r (fun d hd => k d (List.mem_cons_of_mem _ hd)) j v d (by simpa using e) (by simpa using e2)
end
/-- what is known of a dict to those who read it -/
def KeysRd (K : PySem.W.Frag) (H : Hp) (kv : List V) (ks : List D) : Prop := kv.length = ks.length ∧ ∀ (j : Nat) (v : V) (d : D), kv[j]? = some v → ks[j]? = some d → Dp K H v (toP d)
theorem keyAt_of {pins : List (Addr × Obj)} {σ : L2.St} {H : Hp} {s : Shared} (I : Inv X pins σ H s) {v : V} {u : Value} {p : PyData} (hv : Dp X.K H v p) (r : RelV v u) (h1 : GD.hk p = true) (h2 : p.depth ≤ 8) : GD.KeyAt s.heap p u :=
  ⟨h1, h2, Dp.reads I p v u hv r⟩
theorem dictG_of {pins : List (Addr × Obj)} {σ : L2.St} {H : Hp} {s : Shared} (I : Inv X pins σ H s) {a : Addr} {o : Obj} {es : Array DictEntry} {ep : Nat} {kv vv : List V} {ks : List D} (h : H a = some (dX a o)) (q : DctOk X.w a o es ep kv vv ks) (kr : KeysRd X.K H kv ks) : GD.DictG X.w s.heap a o es ep (ks.map toP) := by
  have hat : s.heap.get? a = some o := (I.hok a _ h).1
  have hlk : es.toList.length = ks.length := by
    have := congrArg List.length q.hs
    simpa using this
  refine ⟨hat, q.ex, q.dt, q.nm, ⟨by rw [List.length_map, ← hlk]; simp, fun j x hx => ?_, q.nd⟩, q.sz⟩
  rw [List.getElem?_map] at hx
  cases hd : ks[j]? with
  | none => rw [hd] at hx; cases hx
  | some d =>
    rw [hd] at hx
    cases hx
    have hj : j < ks.length := (List.getElem?_eq_some_iff.mp hd).1
    have hje : j < es.toList.length := by rw [hlk]; exact hj
    have he : es.toList[j]? = some es.toList[j] := List.getElem?_eq_getElem hje
    have hjk : j < kv.length := by rw [kr.1]; exact hj
    have hkv : kv[j]? = some kv[j] := List.getElem?_eq_getElem hjk
    obtain ⟨u, hu, ru⟩ := q.k.get hkv
    rw [List.getElem?_map, he] at hu
    cases hu
    refine ⟨es.toList[j], by rw [← Array.getElem?_toList]; exact he, keyAt_of I (kr.2 j _ d hkv hd) ru (q.ok d (List.mem_of_getElem? hd)).1 (q.ok d (List.mem_of_getElem? hd)).2, ?_⟩
    have hh := congrArg (·[j]?) q.hs
    simp only [List.getElem?_map, he, hd, Option.map_some, Option.some.injEq] at hh
    exact hh
theorem op_inDict (hu : X.A.units + 9 < cLine) : OpR X (compareOp .In) (fun y x H Q => ∃ a o es ep kv vv ks p, x = .ref a ∧ H a = some (dX a o) ∧ DctOk X.w a o es ep kv vv ks ∧ KeysRd X.K H kv ks ∧ Dp X.K H y p ∧ GD.hk p = true ∧ p.depth ≤ 8 ∧ Q (.bl (GD.inKs p (ks.map toP))) H) := by
  rintro pins s σ H y x u v Q I ry rx ⟨a, o, es, ep, kv, vv, ks, p, rfl, h1, h2, h3, h4, h5, h6, q⟩
  cases rx
  exact GD.in_g hu (keyAt_of I h4 ry h5 h6) (dictG_of I h1 h2 h3) fun n => ⟨.bl _, H, I.tok _, rfl, q⟩
theorem op_notInDict (hu : X.A.units + 9 < cLine) : OpR X (compareOp .NotIn) (fun y x H Q => ∃ a o es ep kv vv ks p, x = .ref a ∧ H a = some (dX a o) ∧ DctOk X.w a o es ep kv vv ks ∧ KeysRd X.K H kv ks ∧ Dp X.K H y p ∧ GD.hk p = true ∧ p.depth ≤ 8 ∧ Q (.bl (!GD.inKs p (ks.map toP))) H) := by
  rintro pins s σ H y x u v Q I ry rx ⟨a, o, es, ep, kv, vv, ks, p, rfl, h1, h2, h3, h4, h5, h6, q⟩
  cases rx
  exact GD.notIn_g hu (keyAt_of I h4 ry h5 h6) (dictG_of I h1 h2 h3) fun n => ⟨.bl _, H, I.tok _, rfl, q⟩
/-- what a key finds, over data -/
theorem look_key {k : D} (hk : keyOk k) : ∀ {ks vs : List D}, (∀ d ∈ ks, keyOk d) → ks.length = vs.length → (ks.map toP).Nodup →
    (toP k ∉ ks.map toP ∧ lookD (ks.zip vs) k = none) ∨ ∃ (j : Nat) (d : D), ks[j]? = some k ∧ vs[j]? = some d ∧ lookD (ks.zip vs) k = some d
  | [], vs, _, _, _ => .inl ⟨by simp, by simp [lookD]⟩
  | x :: xs, [], _, h, _ => by simp at h
  | x :: xs, v :: vs, ok, hl, nd => by
    have okx := ok x List.mem_cons_self
    have ndx := List.nodup_cons.mp (by simpa only [List.map_cons] using nd)
    unfold lookD
    rw [List.zip_cons_cons, List.find?_cons]
    by_cases e : x = k
    · subst e
      rw [show eqD (x, v).1 x = true from (eq_key okx okx).mpr rfl]
      exact .inr ⟨0, v, rfl, rfl, rfl⟩
    · have ne : eqD (x, v).1 k = false := by
        cases q : eqD x k with
        | false => rfl
        | true => exact absurd ((eq_key okx hk).mp q) e
      rw [ne]
      rcases look_key hk (fun d hd => ok d (List.mem_cons_of_mem _ hd)) (by simpa using hl) ndx.2 with ⟨h1, h2⟩ | ⟨j, d, h1, h2, h3⟩
      · refine .inl ⟨?_, h2⟩
        simp only [List.map_cons, List.mem_cons, not_or]
        exact ⟨fun z => e (toP_inj k x hk.1 z).symm, h1⟩
      · exact .inr ⟨j + 1, d, by simpa using h1, by simpa using h2, h3⟩
theorem mem_look {k : D} (hk : keyOk k) {ks vs : List D} (ok : ∀ d ∈ ks, keyOk d) (hl : ks.length = vs.length) (nd : (ks.map toP).Nodup) : GD.inKs (toP k) (ks.map toP) = (lookD (ks.zip vs) k).isSome := by
  rcases look_key hk ok hl nd with ⟨h1, h2⟩ | ⟨j, d, h1, h2, h3⟩
  · rw [h2, GD.inKs_f h1]; rfl
  · rw [h3]
    exact GD.inKs_t (List.mem_map.mpr ⟨k, List.mem_of_getElem? h1, rfl⟩)
theorem dct_len {O : Addr → Prop} {K : PySem.W.Frag} {H : Hp} {a : Addr} {w : World} {o : Obj} {es : Array DictEntry} {ep : Nat} {kv vv : List V} {ks vs : List D} (q : DctOk w a o es ep kv vv ks) (r1 : IsL B O K H kv ks) (r2 : IsL B O K H vv vs) : ks.length = vs.length := by
  have l1 := r1.length
  have l2 := r2.length
  have l3 := q.k.length
  have l4 := q.v.length
  rw [List.length_map] at l3 l4
  omega
theorem keysRd_of {O : Addr → Prop} {K : PySem.W.Frag} {H : Hp} {kv : List V} {ks : List D} (r1 : IsL B O K H kv ks) (ok : ∀ d ∈ ks, keyOk d) : KeysRd K H kv ks := ⟨r1.length, r1.keys ok⟩
theorem xor_f (b : Bool) : (false ^^ b) = b := by cases b <;> rfl
theorem xor_t (b : Bool) : (true ^^ b) = !b := by cases b <;> rfl
theorem any_toP : ∀ (ds : List D) (x : D), (toPs ds).any (fun z => PyData.eqv z (toP x)) = ds.any fun z => eqD z x
  | [], _ => by simp only [toPs, List.any_nil]
  | d :: r, x => by
    simp only [toPs, List.any_cons, any_toP r x]
    rfl
theorem deep_ok {O : Addr → Prop} {K : PySem.W.Frag} {H : Hp} {x : V} {d : D} {a : Addr} {xs : List V} {ds : List D} (h : Is B O K H x d) (ha : H a = some (.lst xs)) (r : IsL B O K H xs ds) (q : deepIn d ds) :
    Dp K H x (toP d) ∧ Dp K H (.ref a) (.list (toPs ds)) ∧ SeqAt.shaped (toP d) = true ∧ SeqAt.shaped (.list (toPs ds)) = true := by
  obtain ⟨k1, k2, k3, k4⟩ := q
  have z1 := h.dp k1
  have z2 := r.dp k2
  refine ⟨z1.1, .lst (SqL.of ha) z2.1, ?_, ?_⟩
  · unfold SeqAt.shaped
    rw [z1.2, Bool.true_and]
    exact decide_eq_true k3
  · unfold SeqAt.shaped
    have e : PyData.canLay0 (.list (toPs ds)) = true := by simp only [PyData.canLay0]; exact z2.2
    rw [e, Bool.true_and]
    refine decide_eq_true ?_
    have k5 : (toP (.lst ds)).depth ≤ 64 := k4
    simp only [toP] at k5
    exact k5
theorem oIn (hu : X.A.units + 65 < cLine) (hw : X.w = B.w) : OpD X B (compareOp .In) (rIn false) := by
  refine ⟨_, OpR.or op_in_seq (OpR.or (op_inD hu) (OpR.or op_in_sign (op_inDict (by omega)))), fun O H x y dx dy Qd Q ob oa ix iy h k => ?_⟩
  cases iy with
  | lst ha na ra =>
    rename_i a xs ds
    obtain ⟨hc, q⟩ := h
    rcases hc with ⟨f1, f2⟩ | hc
    · refine .inl ⟨a, xs, rfl, .inl (SqL.of ha), flat_v ix f1, flat_vs ra f2, ?_⟩
      rw [in_flat ix f1 ra f2, if_neg Bool.false_ne_true]
      exact k _ (by rw [xor_f] at q; exact q) _ H (Ex.refl _ _) (.bl _)
    · obtain ⟨z1, z2, z3, z4⟩ := deep_ok ix ha ra hc
      refine .inr (.inl ⟨_, _, z1, z2, z3, z4, ?_⟩)
      rw [any_toP]
      exact k _ (by rw [xor_f] at q; exact q) _ H (Ex.refl _ _) (.bl _)
  | tup ha ra =>
    rename_i a xs ds
    obtain ⟨⟨f1, f2⟩, q⟩ := h
    refine .inl ⟨a, xs, rfl, .inr ha, flat_v ix f1, flat_vs ra f2, ?_⟩
    rw [in_flat ix f1 ra f2, if_neg Bool.false_ne_true]
    exact k _ (by rw [xor_f] at q; exact q) _ H (Ex.refl _ _) (.bl _)
  | str z hz =>
    obtain ⟨c, e, q⟩ := h
    subst e
    cases ix
    exact .inr (.inr (.inl ⟨c, z, rfl, rfl, k _ (by rw [xor_f] at q; exact q) _ H (Ex.refl _ _) (.bl _)⟩))
  | dct ha na dq r1 r2 =>
    rename_i a o es ep kv vv ks vs
    obtain ⟨f, q⟩ := h
    rw [xor_f] at q
    refine .inr (.inr (.inr ⟨a, o, es, ep, kv, vv, ks, toP dx, rfl, ha, by rw [hw]; exact dq, keysRd_of r1 dq.ok, ix.key f, f.1, f.2, ?_⟩))
    rw [mem_look f dq.ok (dct_len dq r1 r2) dq.nd]
    exact k _ q _ H (Ex.refl _ _) (.bl _)
  | _ => exact h.elim
theorem oNotIn (hu : X.A.units + 65 < cLine) (hw : X.w = B.w) : OpD X B (compareOp .NotIn) (rIn true) := by
  refine ⟨_, OpR.or op_notIn_seq (OpR.or (op_notInD hu) (OpR.or op_notIn_sign (op_notInDict (by omega)))), fun O H x y dx dy Qd Q ob oa ix iy h k => ?_⟩
  cases iy with
  | lst ha na ra =>
    rename_i a xs ds
    obtain ⟨hc, q⟩ := h
    rcases hc with ⟨f1, f2⟩ | hc
    · refine .inl ⟨a, xs, rfl, .inl (SqL.of ha), flat_v ix f1, flat_vs ra f2, ?_⟩
      rw [in_flat ix f1 ra f2, if_pos rfl]
      exact k _ (by rw [xor_t] at q; exact q) _ H (Ex.refl _ _) (.bl _)
    · obtain ⟨z1, z2, z3, z4⟩ := deep_ok ix ha ra hc
      refine .inr (.inl ⟨_, _, z1, z2, z3, z4, ?_⟩)
      rw [any_toP]
      exact k _ (by rw [xor_t] at q; exact q) _ H (Ex.refl _ _) (.bl _)
  | tup ha ra =>
    rename_i a xs ds
    obtain ⟨⟨f1, f2⟩, q⟩ := h
    refine .inl ⟨a, xs, rfl, .inr ha, flat_v ix f1, flat_vs ra f2, ?_⟩
    rw [in_flat ix f1 ra f2, if_pos rfl]
    exact k _ (by rw [xor_t] at q; exact q) _ H (Ex.refl _ _) (.bl _)
  | str z hz =>
    obtain ⟨c, e, q⟩ := h
    subst e
    cases ix
    exact .inr (.inr (.inl ⟨c, z, rfl, rfl, k _ (by rw [xor_t] at q; exact q) _ H (Ex.refl _ _) (.bl _)⟩))
  | dct ha na dq r1 r2 =>
    rename_i a o es ep kv vv ks vs
    obtain ⟨f, q⟩ := h
    rw [xor_t] at q
    refine .inr (.inr (.inr ⟨a, o, es, ep, kv, vv, ks, toP dx, rfl, ha, by rw [hw]; exact dq, keysRd_of r1 dq.ok, ix.key f, f.1, f.2, ?_⟩))
    rw [mem_look f dq.ok (dct_len dq r1 r2) dq.nd]
    exact k _ q _ H (Ex.refl _ _) (.bl _)
  | _ => exact h.elim
end
end HD
/-! GD5: the keys of a dict walked; list(d). -/
namespace HD
open PySem PySem.Spec PyProof.Rows L2
/-- the keys of the dict o at d, in their order -/
def Itx (d : Addr) (o : Obj) (kv : List V) : It := ⟨fun i H => H d = some (dX d o) ∧ i < kv.length, fun i H x H' => H' = H ∧ kv[i]? = some x, fun i H => H d = some (dX d o) ∧ kv.length ≤ i⟩
section
variable {P : Program} {w : World} {K : PySem.W.Frag} {tg : Expr} {d : Addr} {o : Obj} {es : Array DictEntry} {ep : Nat} {kv : List V}
theorem ents_len (hv : Vals kv (es.toList.map (·.key))) : es.size = kv.length := by
  have := hv.length
  rw [List.length_map] at this
  simpa using this.symm
theorem turn_x (it : Addr) (hod : o.data = .dict es ep) (hv : Vals kv (es.toList.map (·.key))) : Turn P w K tg (Itx d o kv) [it] it (fun i h => h.IsKeyIter it d i kv.length ep) where
  mem := by simp
  obj := fun i h st b hb => by
    have e : b = it := by simpa using hb
    subst e
    obtain ⟨oi, e, c, dd⟩ := st
    exact ⟨oi, e, fun v z => by rw [dd] at z; cases z⟩
  keep := fun i h h' st k => st.at fun oi e => k it (by simp) oi e
  item := by
    intro X hP hw hK hc i pins s σ H E I hf st hg
    subst hP hw hK
    obtain ⟨hd, hi⟩ := hg
    obtain ⟨f0, f1, f2, f3, f4, f5⟩ := hf it (by simp)
    have hgd : s.heap.get? d = some o := (I.hok d _ hd).1
    have hx : kv[i]? = some kv[i] := List.getElem?_eq_getElem hi
    obtain ⟨u, hu, ru⟩ := hv.get hx
    have hi' : i < es.size := by rw [ents_len hv]; exact hi
    rw [List.getElem?_map, Array.getElem?_toList, Array.getElem?_eq_getElem hi'] at hu
    cases hu
    refine next_key_item st hgd hod (ents_len hv) (Array.getElem?_eq_getElem hi') fun h' st' sb => ?_
    have I1 : Inv X pins σ H { s with heap := h' } := I.turned (t' := s.toks) (fun b ob hb e => (sb.2 b hb).trans e) f0 f1 f3 f4 f5
    obtain ⟨oi, e, c, dd⟩ := id st'
    exact ⟨_, rfl, go_of (s := { s with heap := h' }) e c dd (by decide) ⟨kv[i], H, I1, ru, ⟨rfl, hx⟩, st', fun b hb => (hf b hb).1⟩⟩
  done := by
    intro X hP hw hK hc i pins s σ H E I hf st hg
    subst hP hw hK
    obtain ⟨hd, hi⟩ := hg
    obtain ⟨f0, f1, f2, f3, f4, f5⟩ := hf it (by simp)
    have hgd : s.heap.get? d = some o := (I.hok d _ hd).1
    exact next_key_end (I.ok.hd hc) st hgd hod (ents_len hv) hi fun h' eb => ⟨rfl, I.turned (t' := s.toks) (fun b ob hb e => eb b ob hb e) f0 f1 f3 f4 f5⟩
  self := fun A i s Q E st h => wpAny_pyIter_keyiter st h
end
/-- for k in d -/
def iKeysX (td : TE) : TI := fun σ H R => td σ H fun x H1 => ∃ d o es ep kv, x = .ref d ∧ H1 d = some (dX d o) ∧ o.ExactDict ∧ o.data = .dict es ep ∧ (d == sysModules) = false ∧ Vals kv (es.toList.map (·.key)) ∧ R (Itx d o kv) H1
section
variable {X : Cx} {tg e : Expr} {td : TE}
end
/-! ### list(d) -/
section
variable {prog : Program} {w : World} {d : Addr} {o : Obj} {es : Array DictEntry} {ep : Nat} {A : Around}
theorem walks_x (hh : A.handled = none) (I : Addr) (hne : d ≠ I) (hdt : o.data = .dict es ep) : Walks prog w A I [I, d] [I] es.size (fun i v => ∃ e, es[i]? = some e ∧ v = e.key) (fun i h => h.IsKeyIter I d i es.size ep ∧ h.get? d = some o) where
  sub := fun b hb => by simp at hb; simp [hb]
  frame := fun _ _ _ st hk => ⟨st.1.at fun o e => hk I (by simp) o e, hk d (by simp) _ st.2⟩
  item := fun i s Q E hi st hQ => by
    refine next_key_item st.1 st.2 hdt rfl (Array.getElem?_eq_getElem hi) fun h' st' sb => ?_
    exact hQ _ h' s.toks ⟨_, Array.getElem?_eq_getElem hi, rfl⟩ ⟨st', (sb.2 d hne).trans st.2⟩ fun b o hb e => (sb.2 b (fun h => hb (by simp [h]))).trans e
  done := fun s Q E st hQ => next_key_end hh st.1 st.2 hdt rfl (Nat.le_refl _) fun h' he' => hQ h' s.toks fun b o hb e => he' b o (fun h => hb (by simp [h])) e
  self := fun _ _ _ _ st hQ => wpAny_pyIter_keyiter st.1 hQ
theorem src_x (lo : (d == sysModules) = false) (hx : o.ExactDict) (hdt : o.data = .dict es ep) : PySem.W.KdlSrc prog w "dict" d d es.size (fun i v => ∃ e, es[i]? = some e ∧ v = e.key) (fun h => h.get? d = some o) where
  type := fun _ hm => ⟨o, hm, hx.1⟩
  there := fun _ hm => ⟨Heap.lt_size hm, Heap.lt_size hm⟩
  keep := fun _ _ hm hk => hk d (.inl rfl) o hm
  notList := by decide
  notTuple := by decide
  hint := fun _ _ _ _ hm hq => PySem.W.kdl_hint_dict ⟨o, hm, hx.1⟩ hq
  iter := fun _ _ hh hm => ⟨_, _, (fun _ _ hq => iter_keys lo hm hx hdt hq), walks_x hh _ (Nat.ne_of_lt (Heap.lt_size hm)) hdt, ⟨⟨_, Heap.get?_push_size _ rfl, rfl, rfl⟩, Heap.get?_push_of_some _ hm⟩⟩
end
theorem call_listX {X : Cx} (hcalm : X.calm = true) : CallR X (.type "list") (fun xs H Q => ∃ d o es ep kv, xs = [.ref d] ∧ H d = some (dX d o) ∧ o.ExactDict ∧ o.data = .dict es ep ∧ (d == sysModules) = false ∧ Vals kv (es.toList.map (·.key)) ∧ es.size ≤ sizeLine ∧ ∀ p, H p = none → Q (.ref p) (upd H p (.lst kv))) := by
  intro pins s σ H xs us Q I r q
  obtain ⟨d, o, es, ep, kv, ex, hd, hx, hdt, hs, hv, hz, q⟩ := q
  subst ex
  obtain ⟨u, eu, rx⟩ := vals1 r
  subst eu
  cases rx
  have hgd : s.heap.get? d = some o := (I.hok d _ hd).1
  refine PySem.W.kdl_call (src_x hs hx hdt) (I.ok.hd hcalm) hgd hz fun h' tk acc c' hk hD hacc => ?_
  have e : acc.toList = es.toList.map (·.key) := by
    apply List.ext_getElem?
    intro j
    rw [Array.getElem?_toList, List.getElem?_map, Array.getElem?_toList]
    by_cases hj : j < acc.size
    · obtain ⟨e, h1, h2⟩ := hacc.2 j acc[j] (Array.getElem?_eq_getElem hj)
      rw [Array.getElem?_eq_getElem hj, h1, h2]
      rfl
    · rw [Array.getElem?_eq_none (by omega), Array.getElem?_eq_none (by have := hacc.1; omega)]
      rfl
  refine ⟨.ref s.heap.objs.size, upd H s.heap.objs.size (.lst kv), I.laid (t' := tk) hk (Nat.le_refl _)
    (show ObjOk X.prog X.w _ _ _ (.lst kv) from ⟨by rw [← ents_len hv]; exact hz, acc.toList, c', by rw [e]; exact hv, by rw [Array.toArray_toList]; exact hD⟩), rfl, q _ (I.hok.fresh (Nat.le_refl _))⟩
end HD
/-! HD4: subscripts, slices, built-in functions on data. -/
namespace HD
open PySem L2
section
variable {X : Cx} {F : Fx} {Cl : Str → Addr} {W : WX} {B : Bg}
theorem xOpD {a b : Expr} {op : Operator} {pos : Pos} {r' : D2} {da db : DE} (ho : OpD X F.B (binaryOp op) r') (ha : PE X a (upE F Cl W da)) (hb : PE X b (upE F Cl W db)) (hK : X.K = F.K := by rfl) : PE X (.BinOp a op b pos) (upE F Cl W (dOp r' da db)) := by
  obtain ⟨r, h1, h2⟩ := ho
  exact xOp h1 (by rw [← hK]; exact h2) ha hb
theorem xCmpD {a b : Expr} {op : CmpOp} {pos : Pos} {r' : D2} {da db : DE} (ho : OpD X F.B (compareOp op) r') (ha : PE X a (upE F Cl W da)) (hb : PE X b (upE F Cl W db)) (hm : behindInMarks op b = false := by rfl) (hK : X.K = F.K := by rfl) : PE X (.Compare a [op] [b] pos) (upE F Cl W (dOp r' da db)) := by
  obtain ⟨r, h1, h2⟩ := ho
  exact xCmp h1 (by rw [← hK]; exact h2) ha hb hm
theorem yCmpD {a b : Expr} {op : CmpOp} {pos : Pos} {r' : D2} {da db : DE} (ho : OpD X F.B (compareOp op) r') (ha : PE X a (upE F Cl W da)) (hb : PE X b (upE F Cl W db)) (hm : behindInMarks op b = false := by rfl) (hK : X.K = F.K := by rfl) : PT X (.Compare a [op] [b] pos) (upT F Cl W (dTest (dOp r' da db))) := by
  obtain ⟨r, h1, h2⟩ := ho
  exact yCmp h1 (by rw [← hK]; exact h2) ha hb hm
theorem yChainD {a b c : Expr} {op op' : CmpOp} {pos : Pos} {r' q' : D2} {da db dc : DE} (ho : OpD X F.B (compareOp op) r') (ho' : OpD X F.B (compareOp op') q') (ha : PE X a (upE F Cl W da)) (hb : PE X b (upE F Cl W db)) (hc : PE X c (upE F Cl W dc))
    (hm : lastMarks [op, op'] [b, c] = false := by rfl) (hK : X.K = F.K := by rfl) : PT X (.Compare a [op, op'] [b, c] pos) (upT F Cl W (dTest (dChain r' q' da db dc))) := by
  obtain ⟨r, h1, h2⟩ := ho
  obtain ⟨q, h3, h4⟩ := ho'
  exact yChain h1 (by rw [← hK]; exact h2) h3 (by rw [← hK]; exact h4) ha hb hc hm
/-! ### a unary minus -/
def dNeg (da : DE) : DE := fun ρ Xd Q => da ρ Xd fun x => ∃ i, x = .int i ∧ Q (.int (-i))
theorem xNeg {a : Expr} {pos : Pos} {da : DE} (ha : PE X a (upE F Cl W da)) : PE X (.UnaryOp .USub a pos) (upE F Cl W (dNeg da)) :=
  pe_imp (pe_un un_neg ha) fun σ H Q ⟨ρ, Xd, Qd, env, h1, xo, k⟩ => ⟨ρ, Xd, _, env, h1, xo, fun d ⟨i, hd, q⟩ v H1 e1 i1 => by
    subst hd
    cases i1
    exact ⟨i, rfl, k _ q _ H1 e1 (.int _)⟩⟩
/-! ### subscripts -/
theorem okS_sub {s t : Str} (h : okS s) (hl : t.length ≤ s.length) (hm : ∀ c ∈ t.cps.toList, c ∈ s.cps.toList) : okS t := by
  refine ⟨Nat.le_trans hl h.1, ?_⟩
  have h2 := h.2
  unfold PyData.strOk at h2 ⊢
  rw [← Array.all_toList] at h2 ⊢
  exact List.all_eq_true.mpr fun c hc => List.all_eq_true.mp h2 c (hm c hc)
theorem atI_mem {α : Type} {xs : List α} {i : Int} {x : α} (h : atI xs i = some x) : x ∈ xs := by
  unfold atI at h
  cases q : ixN xs.length i with
  | none => rw [q] at h; cases h
  | some j => rw [q] at h; exact List.mem_of_getElem? h
theorem okS_one {s : Str} {c : Nat} (h : okS s) (hc : c ∈ s.cps.toList) : okS ⟨#[c]⟩ := by
  refine okS_sub h ?_ fun d hd => ?_
  · show 1 ≤ s.cps.size
    have z := List.length_pos_of_mem hc
    have z2 : s.cps.toList.length = s.cps.size := by simp
    omega
  · have e : d = c := by simpa using hd
    rw [e]; exact hc
theorem atI_is {O : Addr → Prop} {K : PySem.W.Frag} {H : Hp} {xs : List V} {ds : List D} {i : Int} {d : D} (r : IsL B O K H xs ds) (h : atI ds i = some d) : ∃ v, atI xs i = some v ∧ Is B O K H v d := by
  unfold atI at h ⊢
  rw [r.length]
  cases q : ixN ds.length i with
  | none => rw [q] at h; cases h
  | some j =>
    rw [q] at h
    exact r.get h
def rIx : D2 := fun x y Q => match x with
  | .tup ds => ∃ i d, y = .int i ∧ atI ds i = some d ∧ Q d
  | .lst ds => ∃ i d, y = .int i ∧ atI ds i = some d ∧ Q d
  | .str s => ∃ i c, y = .int i ∧ atI s.cps.toList i = some c ∧ Q (.str ⟨#[c]⟩)
  | .dct kvs => keyOk y ∧ ∃ d, lookD kvs y = some d ∧ Q d
  | _ => False
theorem look_val {O : Addr → Prop} {K : PySem.W.Frag} {H : Hp} {w : World} {a : Addr} {o : Obj} {es : Array DictEntry} {ep : Nat} {kv vv : List V} {ks vs : List D} {k d : D} (q : DctOk w a o es ep kv vv ks) (r1 : IsL B O K H kv ks) (r2 : IsL B O K H vv vs) (hk : keyOk k) (h : lookD (ks.zip vs) k = some d) : ∃ u v, GD.valG es (ks.map toP) (toP k) = some u ∧ RelV v u ∧ Is B O K H v d := by
  rcases look_key hk q.ok (dct_len q r1 r2) q.nd with ⟨h1, h2⟩ | ⟨j, d', h1, h2, h3⟩
  · rw [h2] at h; cases h
  · rw [h3] at h
    cases h
    obtain ⟨v, hv, iv⟩ := r2.get h2
    obtain ⟨u, hu, ru⟩ := q.v.get hv
    refine ⟨u, v, ?_, ru, iv⟩
    rw [GD.valG_some q.nd (show (ks.map toP)[j]? = some (toP k) by rw [List.getElem?_map, h1]; rfl), ← Array.getElem?_toList, ← List.getElem?_map]
    exact hu
theorem look_non {O : Addr → Prop} {K : PySem.W.Frag} {H : Hp} {w : World} {a : Addr} {o : Obj} {es : Array DictEntry} {ep : Nat} {kv vv : List V} {ks vs : List D} {k : D} (q : DctOk w a o es ep kv vv ks) (r1 : IsL B O K H kv ks) (r2 : IsL B O K H vv vs) (hk : keyOk k) (h : lookD (ks.zip vs) k = none) : GD.valG es (ks.map toP) (toP k) = none := by
  rcases look_key hk q.ok (dct_len q r1 r2) q.nd with ⟨h1, h2⟩ | ⟨j, d', h1, h2, h3⟩
  · exact GD.valG_none h1
  · rw [h3] at h; cases h
theorem ix_dict (hu : X.A.units + 9 < cLine) : IxR X (fun x y H Q => ∃ a o es ep kv vv ks p v u, x = .ref a ∧ H a = some (dX a o) ∧ DctOk X.w a o es ep kv vv ks ∧ KeysRd X.K H kv ks ∧ Dp X.K H y p ∧ GD.hk p = true ∧ p.depth ≤ 8 ∧ GD.valG es (ks.map toP) p = some u ∧ RelV v u ∧ Q v H) := by
  rintro value slice pins s σ H x y v u Q I rx ry ⟨a, o, es, ep, kv, vv, ks, p, v', u', rfl, h1, h2, h3, h4, h5, h6, h7, h8, q⟩ hs
  cases rx
  have g := dictG_of I h1 h2 h3
  exact PyProof.Rows.tail_any g.typeIs PySem.F.slot_dict_getitem.lookup (GD.getItem_g hu (keyAt_of I h4 ry h5 h6) g h7 fun n => ⟨v', H, I.tok _, h8, q⟩) hs
theorem ix_all (hu : X.A.units + 9 < cLine) (hw : X.w = B.w) : ∃ r, IxR X r ∧ OpS B X.K r rIx := by
  refine ⟨_, IxR.or ix_list (IxR.or ix_tup (IxR.or ix_str (ix_dict hu))), fun O H x y dx dy Qd Q ob oa ix iy h k => ?_⟩
  cases ix with
  | lst ha na ra =>
    rename_i a xs ds
    obtain ⟨i, d, e, hi, q⟩ := h
    subst e
    cases iy
    obtain ⟨v, hv, iv⟩ := atI_is ra hi
    exact .inl ⟨a, xs, i, v, rfl, rfl, SqL.of ha, hv, k _ q _ H (Ex.refl _ _) iv⟩
  | tup ha ra =>
    rename_i a xs ds
    obtain ⟨i, d, e, hi, q⟩ := h
    subst e
    cases iy
    obtain ⟨v, hv, iv⟩ := atI_is ra hi
    exact .inr (.inl ⟨a, xs, i, v, rfl, rfl, ha, hv, k _ q _ H (Ex.refl _ _) iv⟩)
  | str z hz =>
    obtain ⟨i, c, e, hi, q⟩ := h
    subst e
    cases iy
    exact .inr (.inr (.inl ⟨z, i, c, rfl, rfl, hz.1, hi, k _ q _ H (Ex.refl _ _) (.str _ (okS_one hz (atI_mem hi)))⟩))
  | dct ha na dq r1 r2 =>
    rename_i a o es ep kv vv ks vs
    obtain ⟨f, d, hd, q⟩ := h
    obtain ⟨u, v, h1, h2, h3⟩ := look_val dq r1 r2 f hd
    exact .inr (.inr (.inr ⟨a, o, es, ep, kv, vv, ks, toP dy, v, u, rfl, ha, by rw [hw]; exact dq, keysRd_of r1 dq.ok, iy.key f, f.1, f.2, h1, h2, k _ q _ H (Ex.refl _ _) h3⟩))
  | _ => exact h.elim
theorem xIx {a b : Expr} {pos : Pos} {da db : DE} (hu : X.A.units + 65 < cLine) (ha : PE X a (upE F Cl W da)) (hb : PE X b (upE F Cl W db)) (hs : PlainIx b := by exact fun _ _ => rfl) (hK : X.K = F.K := by rfl) (hw : X.w = F.B.w := by rfl) : PE X (.Subscript a b pos) (upE F Cl W (dOp rIx da db)) := by
  obtain ⟨r, h1, h2⟩ := ix_all (X := X) (B := F.B) (by omega) hw
  exact pe_imp (pe_ix h1 ha hb hs) (up_op (by rw [← hK]; exact h2))
/-! ### slices -/
abbrev DO := Rho → (Err → Prop) → (Option Int → Prop) → Prop
def upO (F : Fx) (Cl : Str → Addr) (W : WX) (d : DO) : TO := fun σ H Q => ∃ ρ Xd Qd, EnvOk F H σ ρ ∧ d ρ Xd Qd ∧ XO F Cl W σ H ρ Xd ∧ ∀ o, Qd o → ∀ H', Ex F.B H H' → Q o H'
def dNoPart : DO := fun _ _ Q => Q none
def dPart (de : DE) : DO := fun ρ Xd Q => de ρ Xd fun d => ∃ i, d = .int i ∧ Q (some i)
theorem po_imp {e : Option Expr} {t t' : TO} (h : PO X e t) (q : ∀ σ H Q, t' σ H Q → t σ H Q) : PO X e t' := ⟨fun pins s σ H Q I z => h.run pins s σ H Q I (q σ H Q z)⟩
theorem oNone : PO X none (upO F Cl W dNoPart) := po_imp po_none fun σ H Q ⟨ρ, Xd, Qd, env, h1, xo, k⟩ => k _ h1 H (Ex.refl _ _)
theorem oSome {e : Expr} {de : DE} (h : PE X e (upE F Cl W de)) : PO X (some e) (upO F Cl W (dPart de)) := po_imp (po_some h) fun σ H Q ⟨ρ, Xd, Qd, env, h1, xo, k⟩ => ⟨ρ, Xd, _, env, h1, xo, fun d ⟨i, hd, q⟩ v H1 e1 i1 => by
  subst hd
  cases i1
  exact ⟨i, rfl, k _ q H1 e1⟩⟩
def cutL {α : Type} (xs : List α) (lo hi : Option Int) : List α := (xs.drop (HT.sIx xs.length 0 lo)).take (HT.sIx xs.length xs.length hi - HT.sIx xs.length 0 lo)
def rSl (x : D) (lo hi : Option Int) (Q : D → Prop) : Prop := match x with
  | .tup ds => Q (.tup (cutL ds lo hi))
  | .lst ds => Q (.lst (cutL ds lo hi))
  | .str s => Q (.str (cutS s lo hi))
  | _ => False
def dSl (de : DE) (lo hi : DO) : DE := fun ρ Xd Q => de ρ Xd fun x => lo ρ Xd fun l => hi ρ Xd fun h => rSl x l h Q
theorem cut_is {O : Addr → Prop} {K : PySem.W.Frag} {H : Hp} {xs : List V} {ds : List D} (r : IsL B O K H xs ds) (lo hi : Option Int) : IsL B O K H (cutV xs lo hi) (cutL ds lo hi) := by
  unfold cutV cutL
  rw [r.length]
  exact (r.drop _).take _
theorem okS_cut {s : Str} (h : okS s) (lo hi : Option Int) : okS (cutS s lo hi) := okS_sub h (cutS_length s lo hi) fun c hc => by
  have e : c ∈ (s.cps.toList.drop (HT.sIx s.length 0 lo)).take (HT.sIx s.length s.length hi - HT.sIx s.length 0 lo) := by
    unfold cutS at hc
    simpa using hc
  exact List.mem_of_mem_drop (List.mem_of_mem_take e)
theorem cut_all {α : Type} {xs : List α} {lo hi : Option Int} (h : HT.sIx xs.length 0 lo = 0 ∧ HT.sIx xs.length xs.length hi = xs.length) : cutL xs lo hi = xs := by
  unfold cutL
  rw [h.1, h.2, List.drop_zero, Nat.sub_zero, List.take_length]
theorem xSl {e : Expr} {lo hi : Option Expr} {p2 pos : Pos} {de : DE} {dl dh : DO} (he : PE X e (upE F Cl W de)) (hl : PO X lo (upO F Cl W dl)) (hh : PO X hi (upO F Cl W dh)) (hK : X.K = F.K := by rfl) : PE X (.Subscript e (.Slice lo hi none p2) pos) (upE F Cl W (dSl de dl dh)) := by
  refine pe_imp (pe_slice (SlR.or sl_list (SlR.or sl_tupA sl_str)) he hl hh) fun σ H Q ⟨ρ, Xd, Qd, env, h1, xo, k⟩ => ?_
  refine ⟨ρ, Xd, _, env, h1, xo, fun d hd v H1 e1 i1 => ⟨ρ, Xd, _, env.ex' e1, hd, xo.ex e1, fun l hl H2 e2 => ⟨ρ, Xd, _, (env.ex' e1).ex' e2, hl, (xo.ex e1).ex e2, fun h hh H3 e3 => ?_⟩⟩⟩
  have e13 := (e1.trans e2).trans e3
  have env3 := env.ex' e13
  have i3 := (i1.ex e2 env.osb).ex e3 env.osb
  cases i3 with
  | lst ha na ra =>
    rename_i a xs ds
    refine .inl ⟨a, xs, rfl, SqL.of ha, fun p hp => ?_⟩
    exact k _ hh _ _ (e13.trans (Ex.new hp)) (.lst upd_same (fun z => env3.oall p z hp) ((cut_is ra l h).ex (Ex.new hp) env.osb))
  | tup ha ra =>
    rename_i a xs ds
    refine .inr (.inl ⟨a, xs, rfl, by rw [hK]; exact ha, fun w => ?_, fun w p hp => ?_⟩)
    · rw [ra.length] at w
      have hh' : Qd (.tup (cutL ds l h)) := hh
      rw [cut_all w] at hh'
      exact k _ hh' _ H3 e13 (.tup ha ra)
    · exact k _ hh _ _ (e13.trans (Ex.new hp)) (.tup (SqT.of upd_same) ((cut_is ra l h).ex (Ex.new hp) env.osb))
  | str z hz => exact .inr (.inr ⟨z, rfl, hz.1, k _ hh _ H3 e13 (.str _ (okS_cut hz l h))⟩)
  | _ => exact False.elim hh
/-! ### built-in functions -/
abbrev DR := List D → (D → Prop) → Prop
def CallS (B : Bg) (K : PySem.W.Frag) (r : List V → Hp → VK → Prop) (r' : DR) : Prop := ∀ (O : Addr → Prop) (H : Hp) (vs : List V) (ds : List D) (Qd : D → Prop) (Q : VK), O B.b → (∀ a, O a → H a ≠ none) → IsL B O K H vs ds → r' ds Qd →
  (∀ d, Qd d → ∀ v H', Ex B H H' → Is B O K H' v d → Q v H') → r vs H Q
def CallD (X : Cx) (B : Bg) (f : Value) (r' : DR) : Prop := ∃ r, CallR X f r ∧ CallS B X.K r r'
def dCB (r : DR) (da : DA) : DE := fun ρ Xd Q => da ρ Xd fun ds => r ds Q
theorem up_cb {r : List V → Hp → VK → Prop} {r' : DR} {da : DA} (hs : CallS F.B F.K r r') : ∀ σ H Q, upE F Cl W (dCB r' da) σ H Q → tCB r (upA F Cl W da) σ H Q := fun σ H Q ⟨ρ, Xd, Qd, env, h1, xo, k⟩ =>
  ⟨ρ, Xd, _, env, h1, xo, fun ds hd vs H1 e1 i1 => hs _ H1 vs ds Qd Q env.osb (env.ex' e1).oall i1 hd fun d hd v H' e2 i2 => k d hd v H' (e1.trans e2) i2⟩
theorem xCallB {x : Str} {p pos : Pos} {id : String} {e : Expr} {es : List Expr} {r' : DR} {da : DA} (hc : CallD X F.B (.builtin id) r') (hg : Gl X x) (hm : X.mg x = none) (hv : bootBuiltins x = some (.builtin id)) (ha : PA X (e :: es) (upA F Cl W da))
    (hn : x ≠ "__name__" := by decide) (hdb : (x == ("__debug__" : Str)) = false := by decide) (he : starEach (e :: es) X.env = (false, eval e X.env) :: starEach es X.env := by rfl) (hpl : (backTo pos (starEach es X.env)).any (·.1) = false := by rfl) (hK : X.K = F.K := by rfl) :
    PE X (.Call (.Name x p) (e :: es) [] pos) (upE F Cl W (dCB r' da)) := by
  obtain ⟨r, h1, h2⟩ := hc
  exact pe_imp (pe_callB h1 hg hm hv ha hn hdb he hpl) (up_cb (by rw [← hK]; exact h2))
theorem xCallTy {x : Str} {p pos : Pos} {T : String} {e : Expr} {es : List Expr} {r' : DR} {da : DA} (hc : CallD X F.B (.type T) r') (hg : Gl X x) (hm : X.mg x = none) (hv : bootBuiltins x = some (.type T)) (ha : PA X (e :: es) (upA F Cl W da))
    (hn : x ≠ "__name__" := by decide) (hdb : (x == ("__debug__" : Str)) = false := by decide) (he : starEach (e :: es) X.env = (false, eval e X.env) :: starEach es X.env := by rfl) (hpl : (backTo pos (starEach es X.env)).any (·.1) = false := by rfl) (hK : X.K = F.K := by rfl) :
    PE X (.Call (.Name x p) (e :: es) [] pos) (upE F Cl W (dCB r' da)) := by
  obtain ⟨r, h1, h2⟩ := hc
  exact pe_imp (pe_callTy h1 hg hm hv ha hn hdb he hpl) (up_cb (by rw [← hK]; exact h2))
/-! ### len, isinstance, int, list, tuple, sum, max, all, any, sorted -/
def rLen : DR := fun ds Q => match ds with
  | [.str s] => Q (.int s.length)
  | [.tup xs] => Q (.int xs.length)
  | [.lst xs] => Q (.int xs.length)
  | [.dct kvs] => Q (.int kvs.length)
  | _ => False
theorem one_of {O : Addr → Prop} {K : PySem.W.Frag} {H : Hp} {vs : List V} {d : D} (h : IsL B O K H vs [d]) : ∃ v, vs = [v] ∧ Is B O K H v d := by
  cases h with
  | cons h r => cases r; exact ⟨_, rfl, h⟩
theorem two_of {O : Addr → Prop} {K : PySem.W.Frag} {H : Hp} {vs : List V} {d e : D} (h : IsL B O K H vs [d, e]) : ∃ v w, vs = [v, w] ∧ Is B O K H v d ∧ Is B O K H w e := by
  cases h with
  | cons h r =>
    obtain ⟨w, rfl, hw⟩ := one_of r
    exact ⟨_, w, rfl, h, hw⟩
theorem call_lenX : CallR X (.builtin "len") (fun xs H Q => ∃ a o es ep kv vv ks, xs = [.ref a] ∧ H a = some (dX a o) ∧ DctOk X.w a o es ep kv vv ks ∧ KeysRd X.K H kv ks ∧ Q (.int (ks.length : Int)) H) := by
  intro pins s σ H xs us Q I r q
  obtain ⟨a, o, es, ep, kv, vv, ks, ex, h1, h2, h3, q⟩ := q
  subst ex
  obtain ⟨u, eu, rx⟩ := vals1 r
  subst eu
  cases rx
  refine GD.len_g (dictG_of I h1 h2 h3) fun t n => ?_
  rw [List.length_map]
  exact ⟨.int (ks.length : Int), H, I.tok _, ⟨_, rfl⟩, q⟩
theorem cLen (hw : X.w = B.w) : CallD X B (.builtin "len") rLen := by
  refine ⟨_, CallR.or call_len_str (CallR.or call_len_seq call_lenX), fun O H vs ds Qd Q ob oa hv h k => ?_⟩
  rcases ds with _ | ⟨d, _ | ⟨d2, dr⟩⟩
  · exact False.elim h
  rotate_left
  · cases d <;> exact False.elim h
  · obtain ⟨v, rfl, i⟩ := one_of hv
    cases i with
    | str s hs => exact .inl ⟨s, rfl, hs.1, k _ h _ H (Ex.refl _ _) (.int _)⟩
    | tup ha ra => exact .inr (.inl ⟨_, _, rfl, .inr ha, by rw [ra.length]; exact k _ h _ H (Ex.refl _ _) (.int _)⟩)
    | lst ha na ra => exact .inr (.inl ⟨_, _, rfl, .inl (SqL.of ha), by rw [ra.length]; exact k _ h _ H (Ex.refl _ _) (.int _)⟩)
    | dct ha na dq r1 r2 =>
      refine .inr (.inr ⟨_, _, _, _, _, _, _, rfl, ha, by rw [hw]; exact dq, keysRd_of r1 dq.ok, ?_⟩)
      refine k _ h _ H (Ex.refl _ _) ?_
      rw [List.length_zip, ← dct_len dq r1 r2, Nat.min_self]
      exact .int _
    | _ => exact False.elim h
def tyN : D → String
  | .non => "NoneType"
  | .bl _ => "bool"
  | .int _ => "int"
  | .str _ => "str"
  | .ty _ => "type"
  | .tup _ => "tuple"
  | .lst _ => "list"
  | .dct _ => "dict"
  | .obj _ _ => "object"
  | .bag => "list"
  | .raw _ => "object"
  | .err _ _ => "dict"
  | .exo _ _ _ => "dict"
  | .duo _ _ _ => "dict"
def isPl : D → Bool
  | .ty _ => false
  | .obj _ _ => false
  | .bag => false
  | .raw _ => false
  | .err _ _ => false
  | .exo _ _ _ => false
  | .duo _ _ _ => false
  | _ => true
/-- isinstance of plain data and a plain class -/
def isiN (n : String) (d : D) : Bool := tyN d == n || (tyN d == "bool" && n == "int")
/-- the type of a value, a dict's too -/
def TyZ (K : PySem.W.Frag) (H : Hp) (x : V) (t : Value) : Prop := TyX K H x t ∨ ∃ a o, x = .ref a ∧ H a = some (dX a o) ∧ o.ExactDict ∧ t = .type "dict"
theorem kit_ofZ {pins : List (Addr × Obj)} {σ : L2.St} {H : Hp} {s : Shared} {x : V} {u t : Value} (I : Inv X pins σ H s) (rx : RelV x u) (ty : TyZ X.K H x t) : ∃ P : Heap → Prop, PySem.W.KitX X.K u t P ∧ P s.heap ∧ u ≠ .builtin "__main__.__loader__#opaque" := by
  rcases ty with ty | ⟨a, o, rfl, h, hx, rfl⟩
  · exact kit_of I rx ty
  · cases (show u = Value.ref a from rx)
    exact ⟨_, PySem.W.kitx_dict, ⟨o, (I.hok a _ h).1, hx.1⟩, fun z => nomatch z⟩
theorem call_isiZ : CallR X (.builtin "isinstance") (fun xs H Q => ∃ (x c : V) (t u : Value) (b : Bool), xs = [x, c] ∧ ClsV c u ∧ TyZ X.K H x t ∧ PySem.W.kitOne X.K t u = some b ∧ Q (.bl b) H) := by
  intro pins s σ H xs us Q I r h
  obtain ⟨x, c, t, u, b, rfl, k, ty, e, q⟩ := h
  obtain ⟨u1, u2, rfl, r1, r2⟩ := vals2 r
  have e2 := k.eq r2
  subst e2
  obtain ⟨P, Z, p, hx⟩ := kit_ofZ I r1 ty
  exact PySem.W.kia_one Z I.kIn p e hx fun tk => ⟨.bl b, H, I.tok tk, rfl, q⟩
theorem call_isiTZ : CallR X (.builtin "isinstance") (fun xs H Q => ∃ (x : V) (tp : Addr) (cs : List V) (t : Value) (us : List Value) (b : Bool), xs = [x, .ref tp] ∧ H tp = some (.tup cs) ∧ Paired ClsV cs us ∧ TyZ X.K H x t ∧ PySem.W.kitAny X.K t us = some b ∧ Q (.bl b) H) := by
  intro pins s σ H xs us Q I r h
  obtain ⟨x, tp, cs, t, ws, b, rfl, hT, k, ty, e, q⟩ := h
  obtain ⟨u1, u2, rfl, r1, r2⟩ := vals2 r
  cases (show u2 = Value.ref tp from r2)
  obtain ⟨P, Z, p, hx⟩ := kit_ofZ I r1 ty
  obtain ⟨_, its, rv, o, h1, h2, n, h3⟩ := (show ObjOk X.prog X.w H s.heap tp (.tup cs) from I.hok tp _ hT)
  have e3 := ClsV.all k rv
  subst e3
  obtain ⟨oc, od, dt, sl⟩ := o
  simp only at h2 h3
  subst h2 h3
  exact PySem.W.kia_tup Z I.kIn p h1 e hx fun tk => ⟨.bl b, H, I.tok tk, rfl, q⟩
theorem ty_of {O : Addr → Prop} {K : PySem.W.Frag} {H : Hp} {x : V} {d : D} (h : Is B O K H x d) (p : isPl d = true) : TyZ K H x (.type (tyN d)) := by
  cases h with
  | non => exact .inl (.base .non)
  | bl c => exact .inl (.base (.bl c))
  | int i => exact .inl (.base (.int i))
  | str s h => exact .inl (.base (.str s))
  | tup h r =>
    rcases h with (h | ⟨o, h⟩) | ⟨o, its, n, h1, h2, _⟩
    · exact .inl (.base (.tup h))
    · exact .inl (.fTuple h)
    · exact .inl (.kTuple h1 h2)
  | lst h n r => exact .inl (.base (.lst h))
  | dct h n q r1 r2 => exact .inr ⟨_, _, rfl, h, q.ex, rfl⟩
  | _ => cases p
def plainTys : List String := ["str", "int", "bool", "list", "tuple", "dict"]
theorem kit_n (K : PySem.W.Frag) {d : D} {n : String} (p : isPl d = true) (hn : n ∈ plainTys) : PySem.W.kitOne K (.type (tyN d)) (.type n) = some (isiN n d) := by
  simp only [plainTys, List.mem_cons, List.not_mem_nil, or_false] at hn
  cases d <;> first | (cases p; done) | (rcases hn with rfl | rfl | rfl | rfl | rfl | rfl <;> kernel_rfl)
def rIsi : DR := fun ds Q => ∃ d n, ds = [d, .ty n] ∧ isPl d = true ∧ n ∈ plainTys ∧ Q (.bl (isiN n d))
theorem cIsi : CallD X B (.builtin "isinstance") rIsi := by
  refine ⟨_, call_isiZ, fun O H vs ds Qd Q ob oa hv h k => ?_⟩
  obtain ⟨d, n, rfl, p, hn, q⟩ := h
  obtain ⟨v, w, rfl, iv, iw⟩ := two_of hv
  cases iw
  exact ⟨v, .ty n, _, _, _, rfl, .ty n, ty_of iv p, kit_n X.K p hn, k _ q _ H (Ex.refl _ _) (.bl _)⟩
theorem kit_2 (K : PySem.W.Frag) {d : D} {n m : String} (p : isPl d = true) (hn : n ∈ plainTys) (hm : m ∈ plainTys) : PySem.W.kitAny K (.type (tyN d)) [.type n, .type m] = some (isiN n d || isiN m d) := by
  simp only [plainTys, List.mem_cons, List.not_mem_nil, or_false] at hn hm
  cases d <;> first | (cases p; done) | (rcases hn with rfl | rfl | rfl | rfl | rfl | rfl <;> rcases hm with rfl | rfl | rfl | rfl | rfl | rfl <;> kernel_rfl)
/-- a built-in class as a value -/
theorem xTy {x : Str} {n : String} {pos : Pos} (hg : Gl X x) (hm : X.mg x = none) (hv : bootBuiltins x = some (.type n)) (hn : x ≠ "__name__" := by decide) (hd : (x == ("__debug__" : Str)) = false := by decide) : PE X (.Name x pos) (upE F Cl W (dC (.ty n))) :=
  pe_imp (pe_bltn (v := .ty n) hg hm hv rfl hn hd) fun σ H Q ⟨ρ, Xd, Qd, env, h1, xo, k⟩ => k _ h1 _ H (Ex.refl _ _) (.ty n)
/-- isinstance(e, (A, B)) -/
def dIsi2 (n m : String) (de : DE) : DE := fun ρ Xd Q => de ρ Xd fun d => isPl d = true ∧ Q (.bl (isiN n d || isiN m d))
theorem xIsi2 {e : Expr} {a b : Str} {n m : String} {p pa pb tp pos : Pos} {kk} {de : DE} (he : PE X e (upE F Cl W de)) (hg : Gl X "isinstance") (hm0 : X.mg "isinstance" = none) (ga : Gl X a) (ma : X.mg a = none) (va : bootBuiltins a = some (.type n)) (gb : Gl X b) (mb : X.mg b = none) (vb : bootBuiltins b = some (.type m))
    (hn : n ∈ plainTys) (hm : m ∈ plainTys) (na : a ≠ "__name__" := by decide) (da : (a == ("__debug__" : Str)) = false := by decide) (nb : b ≠ "__name__" := by decide) (db : (b == ("__debug__" : Str)) = false := by decide)
    (h1 : starEach [e, .Tuple [.Name a pa, .Name b pb] kk tp] X.env = (false, eval e X.env) :: starEach [.Tuple [.Name a pa, .Name b pb] kk tp] X.env := by rfl) (hpl : (backTo pos (starEach [.Tuple [.Name a pa, .Name b pb] kk tp] X.env)).any (·.1) = false := by rfl) (hK : X.K = F.K := by rfl) :
    PE X (.Call (.Name "isinstance" p) [e, .Tuple [.Name a pa, .Name b pb] kk tp] [] pos) (upE F Cl W (dIsi2 n m de)) := by
  refine pe_imp (pe_callB call_isiTZ hg hm0 (by decide +kernel) (pa_cons he (pa_cons (pe_tup (pa_cons (pe_bltn (v := .ty n) ga ma va rfl na da) (pa_cons (pe_bltn (v := .ty m) gb mb vb rfl nb db) pa_nil))) pa_nil) h1) (by decide) (by decide) h1 hpl) fun σ H Q ⟨ρ, Xd, Qd, env, h1, xo, k⟩ => ?_
  refine ⟨ρ, Xd, _, env, h1, xo, fun d ⟨p, q⟩ v H1 e1 i1 => ?_⟩
  refine ⟨by show 2 ≤ sizeLine; decide, fun t ht => ?_⟩
  have i2 := i1.ex (Ex.new (o := .tup [.ty n, .ty m]) ht) env.osb
  exact ⟨v, t, _, _, _, _, rfl, upd_same, .cons (.ty n) (.cons (.ty m) .nil), by rw [hK]; exact ty_of i2 p, kit_2 _ p hn hm, k _ q _ _ (e1.trans (Ex.new ht)) (.bl _)⟩
def rInt : DR := fun ds Q => match ds with
  | [.int i] => Q (.int i)
  | [.bl b] => Q (.int (if b then 1 else 0))
  | _ => False
theorem cInt : CallD X B (.type "int") rInt := by
  refine ⟨_, call_int1, fun O H vs ds Qd Q ob oa hv h k => ?_⟩
  rcases ds with _ | ⟨d, _ | ⟨d2, dr⟩⟩
  · exact False.elim h
  rotate_left
  · cases d <;> exact False.elim h
  · obtain ⟨v, rfl, i⟩ := one_of hv
    cases i with
    | int i => exact .inl ⟨i, rfl, k _ h _ H (Ex.refl _ _) (.int _)⟩
    | bl b => exact .inr ⟨b, rfl, k _ h _ H (Ex.refl _ _) (.int _)⟩
    | _ => exact False.elim h
/-- list(x): a new one -/
def rList : DR := fun ds Q => match ds with
  | [.tup xs] => Q (.lst xs)
  | [.lst xs] => Q (.lst xs)
  | [.dct kvs] => Q (.lst (kvs.map (·.1)))
  | _ => False
def CallN (X : Cx) (B : Bg) (f : Value) (r' : DR) : Prop := ∃ r, CallR X f r ∧ ∀ (O : Addr → Prop) (H : Hp) (vs : List V) (ds : List D) (Qd : D → Prop) (Q : VK), O B.b → (∀ a, O a → H a ≠ none) → IsL B O X.K H vs ds → r' ds Qd →
  (∀ d, Qd d → ∀ a H', Ex B H H' → H a = none → OwnN B O X.K H' a d → Q (.ref a) H') → r vs H Q
theorem zip_keys {α β : Type} : ∀ {ks : List α} {vs : List β}, ks.length = vs.length → (ks.zip vs).map (·.1) = ks
  | [], _, _ => by simp
  | k :: ks, [], h => by simp at h
  | k :: ks, v :: vs, h => by
    rw [List.zip_cons_cons, List.map_cons, zip_keys (by simpa using h)]
theorem cList (hc : X.calm = true) : CallN X B (.type "list") rList := by
  refine ⟨_, CallR.or call_list_of (call_listX hc), fun O H vs ds Qd Q ob oa hv h k => ?_⟩
  rcases ds with _ | ⟨d, _ | ⟨d2, dr⟩⟩
  · exact False.elim h
  rotate_left
  · cases d <;> exact False.elim h
  · obtain ⟨v, rfl, i⟩ := one_of hv
    cases i with
    | tup ha ra => exact .inl ⟨_, _, rfl, .inr ha, fun l hl => k _ h l _ (Ex.new hl) hl (own_new ra hl ob)⟩
    | lst ha na ra => exact .inl ⟨_, _, rfl, .inl (SqL.of ha), fun l hl => k _ h l _ (Ex.new hl) hl (own_new ra hl ob)⟩
    | dct ha na dq r1 r2 => exact .inr ⟨_, _, _, _, _, rfl, ha, dq.ex, dq.dt, dq.nm, dq.k, dq.sz, fun l hl => k _ h l _ (Ex.new hl) hl (own_new (by rw [zip_keys (dct_len dq r1 r2)]; exact r1) hl ob)⟩
    | _ => exact False.elim h
theorem nCallTy {x : Str} {p pos : Pos} {T : String} {e : Expr} {es : List Expr} {r' : DR} {da : DA} (hc : CallN X F.B (.type T) r') (hg : Gl X x) (hm : X.mg x = none) (hv : bootBuiltins x = some (.type T)) (ha : PA X (e :: es) (upA F Cl W da))
    (hn : x ≠ "__name__" := by decide) (hdb : (x == ("__debug__" : Str)) = false := by decide) (he : starEach (e :: es) X.env = (false, eval e X.env) :: starEach es X.env := by rfl) (hpl : (backTo pos (starEach es X.env)).any (·.1) = false := by rfl) (hK : X.K = F.K := by rfl) :
    PE X (.Call (.Name x p) (e :: es) [] pos) (upN F Cl W (dCB r' da)) := by
  obtain ⟨r, h1, h2⟩ := hc
  refine pe_imp (pe_callTy h1 hg hm hv ha hn hdb he hpl) fun σ H Q ⟨ρ, Xd, Qd, env, h1, xo, k⟩ => ?_
  exact ⟨ρ, Xd, _, env, h1, xo, fun ds hd vs H1 e1 i1 => h2 _ H1 vs ds Qd Q env.osb (env.ex' e1).oall (by rw [hK]; exact i1) hd fun d hd a H' e2 n o => k d hd a H' (e1.trans e2) (e1.free n) (by rw [← hK]; exact o)⟩
theorem nCallB {x : Str} {p pos : Pos} {T : String} {e : Expr} {es : List Expr} {r' : DR} {da : DA} (hc : CallN X F.B (.builtin T) r') (hg : Gl X x) (hm : X.mg x = none) (hv : bootBuiltins x = some (.builtin T)) (ha : PA X (e :: es) (upA F Cl W da))
    (hn : x ≠ "__name__" := by decide) (hdb : (x == ("__debug__" : Str)) = false := by decide) (he : starEach (e :: es) X.env = (false, eval e X.env) :: starEach es X.env := by rfl) (hpl : (backTo pos (starEach es X.env)).any (·.1) = false := by rfl) (hK : X.K = F.K := by rfl) :
    PE X (.Call (.Name x p) (e :: es) [] pos) (upN F Cl W (dCB r' da)) := by
  obtain ⟨r, h1, h2⟩ := hc
  refine pe_imp (pe_callB h1 hg hm hv ha hn hdb he hpl) fun σ H Q ⟨ρ, Xd, Qd, env, h1, xo, k⟩ => ?_
  exact ⟨ρ, Xd, _, env, h1, xo, fun ds hd vs H1 e1 i1 => h2 _ H1 vs ds Qd Q env.osb (env.ex' e1).oall (by rw [hK]; exact i1) hd fun d hd a H' e2 n o => k d hd a H' (e1.trans e2) (e1.free n) (by rw [← hK]; exact o)⟩
def rTuple : DR := fun ds Q => match ds with
  | [.tup xs] => Q (.tup xs)
  | [.lst xs] => Q (.tup xs)
  | _ => False
theorem cTuple : CallD X B (.type "tuple") rTuple := by
  refine ⟨_, call_tuple_of, fun O H vs ds Qd Q ob oa hv h k => ?_⟩
  rcases ds with _ | ⟨d, _ | ⟨d2, dr⟩⟩
  · exact False.elim h
  rotate_left
  · cases d <;> exact False.elim h
  · obtain ⟨v, rfl, i⟩ := one_of hv
    cases i with
    | tup ha ra => exact ⟨_, _, rfl, .inr ⟨ha, k _ h _ H (Ex.refl _ _) (.tup ha ra)⟩⟩
    | lst ha na ra => exact ⟨_, _, rfl, .inl ⟨SqL.of ha, fun l hl => k _ h _ _ (Ex.new hl) (.tup (SqT.of upd_same) (ra.ex (Ex.new hl) ob))⟩⟩
    | _ => exact False.elim h
theorem ints_of {O : Addr → Prop} {K : PySem.W.Frag} {H : Hp} : ∀ {xs : List V} {ns : List Int}, IsL B O K H xs (ns.map D.int) → xs = ns.map V.int
  | _, [], .nil => rfl
  | _, n :: r, .cons h t => by
    cases h
    rw [ints_of t] <;> rfl
theorem bools_of {O : Addr → Prop} {K : PySem.W.Frag} {H : Hp} : ∀ {xs : List V} {ns : List Bool}, IsL B O K H xs (ns.map D.bl) → xs = ns.map V.bl
  | _, [], .nil => rfl
  | _, n :: r, .cons h t => by
    cases h
    rw [bools_of t] <;> rfl
theorem strs_of {O : Addr → Prop} {K : PySem.W.Frag} {H : Hp} : ∀ {xs : List V} {ns : List Str}, IsL B O K H xs (ns.map D.str) → xs = ns.map V.str ∧ ∀ s ∈ ns, okS s
  | _, [], .nil => ⟨rfl, fun _ h => nomatch h⟩
  | _, n :: r, .cons h t => by
    cases h with
    | str s hs =>
      obtain ⟨e, q⟩ := strs_of t
      refine ⟨by rw [e] <;> rfl, fun z hz => ?_⟩
      rcases List.mem_cons.mp hz with rfl | hz
      · exact hs
      · exact q z hz
def rSum : DR := fun ds Q => ∃ ns : List Int, ds = [.lst (ns.map D.int)] ∧ Q (.int ns.sum)
theorem cSum (hc : X.calm = true) : CallD X B (.builtin "sum") rSum := by
  refine ⟨_, cr_sum hc, fun O H vs ds Qd Q ob oa hv h k => ?_⟩
  obtain ⟨ns, rfl, q⟩ := h
  obtain ⟨v, rfl, i⟩ := one_of hv
  cases i with
  | lst ha na ra => exact ⟨_, ns, rfl, by rw [← ints_of ra]; exact SqL.of ha, k _ q _ H (Ex.refl _ _) (.int _)⟩
def rAll : DR := fun ds Q => ∃ bs : List Bool, ds = [.lst (bs.map D.bl)] ∧ Q (.bl (bs.all id))
theorem cAll (hc : X.calm = true) : CallD X B (.builtin "all") rAll := by
  refine ⟨_, cr_all hc, fun O H vs ds Qd Q ob oa hv h k => ?_⟩
  obtain ⟨ns, rfl, q⟩ := h
  obtain ⟨v, rfl, i⟩ := one_of hv
  cases i with
  | lst ha na ra => exact ⟨_, ns, rfl, by rw [← bools_of ra]; exact SqL.of ha, k _ q _ H (Ex.refl _ _) (.bl _)⟩
def rAny : DR := fun ds Q => ∃ bs : List Bool, ds = [.lst (bs.map D.bl)] ∧ Q (.bl (bs.any id))
/-- max of a list, of two ints -/
def rMax : DR := fun ds Q => (∃ ns : List Int, ds = [.lst (ns.map D.int)] ∧ 0 < ns.length ∧ ∀ m, m ∈ ns → (∀ y ∈ ns, y ≤ m) → Q (.int m)) ∨ ∃ i j, ds = [.int i, .int j] ∧ Q (.int (if j > i then j else i))
theorem cMax (hc : X.calm = true) : CallD X B (.builtin "max") rMax := by
  refine ⟨_, CallR.or (cr_max hc) (call_max2 hc), fun O H vs ds Qd Q ob oa hv h k => ?_⟩
  rcases h with ⟨ns, rfl, hz, q⟩ | ⟨i, j, rfl, q⟩
  · obtain ⟨v, rfl, i⟩ := one_of hv
    cases i with
    | lst ha na ra => exact .inl ⟨_, ns, rfl, by rw [← ints_of ra]; exact SqL.of ha, hz, fun m h1 h2 => k _ (q m h1 h2) _ H (Ex.refl _ _) (.int _)⟩
  · obtain ⟨v, w, rfl, iv, iw⟩ := two_of hv
    cases iv
    cases iw
    exact .inr ⟨i, j, rfl, k _ q _ H (Ex.refl _ _) (.int _)⟩
end
end HD
/-! HD5: statements, loops, comprehensions, calls of defs, over data. -/
namespace HD
open PySem PyProof.Rows L2
section
variable {X : Cx} {F : Fx} {Cl : Str → Addr} {W : WX} {B : Bg}
def dNext : DS := fun De ρ => De.nx ρ
def dSeq (a b : DS) : DS := fun De ρ => a { De with nx := b De } ρ
def dRet (de : DE) : DS := fun De ρ => de ρ (De.ex ρ) De.rt
def dRetN : DS := fun De _ => De.rt .non
def dDrop (de : DE) : DS := fun De ρ => de ρ (De.ex ρ) fun _ => De.nx ρ
def dIfS (c : DT) (a b : DS) : DS := fun De ρ => c ρ (De.ex ρ) fun t => if t = true then a De ρ else b De ρ
def dAsg (i : Nat) (de : DE) : DS := fun De ρ => de ρ (De.ex ρ) fun d => De.nx (ρ.set i (some (.val d)))
def dOwn (i : Nat) (de : DE) : DS := fun De ρ => de ρ (De.ex ρ) fun d => De.nx (ρ.set i (some (.own d)))
def dAppend (i : Nat) (de : DE) : DS := fun De ρ => ∃ ds, ρ[i]? = some (some (.own (.lst ds))) ∧ de ρ (De.ex ρ) fun d => ds.length < sizeLine ∧ De.nx (ρ.set i (some (.own (.lst (ds ++ [d])))))
def dFrz (i : Nat) (s : DS) : DS := fun De ρ => ∃ d, ρ[i]? = some (some (.own d)) ∧ s De (ρ.set i (some (.val d)))
def dAug (i : Nat) (de : DE) : DS := fun De ρ => ∃ a, ρ[i]? = some (some (.val (.int a))) ∧ de ρ (De.ex ρ) fun d => ∃ b, d = .int b ∧ De.nx (ρ.set i (some (.val (.int (a + b)))))
theorem xo_of {σ : L2.St} {H : Hp} {ρ : Rho} {De : DEnds} (env : EnvOk F H σ ρ) (k : ∀ ρ' e, De.ex ρ' e → ∀ σ' H' dd v, EnvOk F H' σ' ρ' → H' dd = some (.xd [(fldOf e.1, v)]) → Is F.B (OS F σ' ρ') F.K H' v e.2 → W (.ref (Cl e.1)) (some dd) σ' H') : XO F Cl W σ H ρ (De.ex ρ) :=
  fun e he dd v H' x h1 h2 => k ρ e he σ H' dd v (env.ex' x) h1 h2
theorem sNil : PSs X [] (upS F Cl W dNext) := pss_imp pss_nil fun D σ H ⟨ρ, De, env, h, k1, _⟩ => k1 ρ h σ H env
theorem sOne {st : Stmt} {a : DS} (h : PS X st (upS F Cl W a)) : PSs X [st] (upS F Cl W a) := pss_one h
theorem sCons {st : Stmt} {rest : List Stmt} {a b : DS} (h1 : PS X st (upS F Cl W a)) (h2 : PSs X rest (upS F Cl W b)) : PSs X (st :: rest) (upS F Cl W (dSeq a b)) :=
  pss_imp (pss_cons h1 h2) fun D σ H ⟨ρ, De, env, h, k1, k2, k3, k4, k5⟩ => ⟨ρ, _, env, h, fun ρ' h' σ' H' env' => ⟨ρ', De, env', h', k1, k2, k3, k4, k5⟩, k2, k3, k4, k5⟩
theorem sFrz {sts : List Stmt} {i : Nat} {a : DS} (h : PSs X sts (upS F Cl W a)) : PSs X sts (upS F Cl W (dFrz i a)) := pss_imp h fun D σ H ⟨ρ, De, env, ⟨d, e, h⟩, k1, k2, k3, k4, k5⟩ => ⟨_, De, env.freeze e, h, k1, k2, k3, k4, k5⟩
def dBreak : DS := fun De ρ => De.bk ρ
def dCont : DS := fun De ρ => De.ct ρ
theorem sRet {e : Expr} {pos : Pos} {de : DE} (h : PE X e (upE F Cl W de)) (hR : ∀ d v H', F.R d v H' := by exact fun _ _ _ => True.intro) : PS X (.Return (some e) pos) (upS F Cl W (dRet de)) := ps_imp (ps_ret h) fun D σ H ⟨ρ, De, env, h, k1, k2, k3, k4, k5⟩ =>
  ⟨ρ, De.ex ρ, De.rt, env, h, xo_of env k5, fun d hd v H' x i => k2 d hd v H' (env.ex.trans x) (i.sub (fun c z => .inl (.inl z)) env.ob) (hR _ _ _)⟩
theorem sDrop {e : Expr} {pos : Pos} {de : DE} (h : PE X e (upE F Cl W de)) (hs : swapsWith e none pos.line X.env = pure false := by rfl) : PS X (.Expr e pos) (upS F Cl W (dDrop de)) := ps_imp (ps_expr h hs) fun D σ H ⟨ρ, De, env, h, k1, k2, k3, k4, k5⟩ =>
  ⟨ρ, De.ex ρ, _, env, h, xo_of env k5, fun d hd v H' x i => k1 ρ hd σ H' (env.ex' x)⟩
theorem sIf {c : Expr} {a b : List Stmt} {pos : Pos} {dt : DT} {da db : DS} (hc : PT X c (upT F Cl W dt)) (ha : PSs X a (upS F Cl W da)) (hb : PSs X b (upS F Cl W db)) : PS X (.If c a b pos) (upS F Cl W (dIfS dt da db)) :=
  ps_imp (ps_if hc ha hb) fun D σ H ⟨ρ, De, env, h, k1, k2, k3, k4, k5⟩ => ⟨ρ, De.ex ρ, _, env, h, xo_of env k5, fun c hc H' x => by
    cases c with
    | true => exact ⟨ρ, De, env.ex' x, hc, k1, k2, k3, k4, k5⟩
    | false => exact ⟨ρ, De, env.ex' x, hc, k1, k2, k3, k4, k5⟩⟩
theorem sSet {i : Nat} {x : Str} {e : Expr} {pos pos' : Pos} {de : DE} (hN : X.N.Nodup) (hi : X.N[i]? = some x) (hx : Loc X.env.scope x) (h : PE X e (upE F Cl W de)) (hs : swapsWith e (some (.Name x pos')) pos.line X.env = pure false := by rfl) (hf : X.fn x = true ∨ X.env.scope.names.lookup x = some .local := by first | exact .inl rfl | exact .inr rfl) : PS X (.Assign [.Name x pos'] e pos) (upS F Cl W (dAsg i de)) :=
  ps_imp (ps_set hN hi hx h hs hf) fun D σ H ⟨ρ, De, env, h, k1, k2, k3, k4, k5⟩ => ⟨ρ, De.ex ρ, _, env, h, xo_of env k5, fun d hd v H' x is => k1 _ hd _ H' ((env.ex' x).set is)⟩
theorem sOwn {i : Nat} {x : Str} {e : Expr} {pos pos' : Pos} {de : DE} (hN : X.N.Nodup) (hi : X.N[i]? = some x) (hx : Loc X.env.scope x) (h : PE X e (upN F Cl W de)) (hs : swapsWith e (some (.Name x pos')) pos.line X.env = pure false := by rfl) (hf : X.fn x = true ∨ X.env.scope.names.lookup x = some .local := by first | exact .inl rfl | exact .inr rfl) : PS X (.Assign [.Name x pos'] e pos) (upS F Cl W (dOwn i de)) :=
  ps_imp (ps_set hN hi hx h hs hf) fun D σ H ⟨ρ, De, env, h, k1, k2, k3, k4, k5⟩ => ⟨ρ, De.ex ρ, _, env, h, xo_of env k5, fun d hd a H' x n o => k1 _ hd _ H' (env.setOwn x n o)⟩
theorem sAppend {i : Nat} {x : Str} {e : Expr} {p1 p2 p3 pos : Pos} {de : DE} (hv : PE X (.Name x p1) (tVar i)) (h : PE X e (upE F Cl W de)) (hs : swapsWith (.Call (.Attribute (.Name x p1) "append" p2) [e] [] p3) none pos.line X.env = pure false := by rfl)
    (pe : ∀ (r : V → List V → Hp → VK → Prop) (to : TE) (t : TA), MtR X "list.append" r → PE X (.Name x p1) to → PA X [e] t → PE X (.Call (.Attribute (.Name x p1) "append" p2) [e] [] p3) (tBM X.K "list" r to t)) (hst : starEach [e] X.env = (false, eval e X.env) :: starEach [] X.env := by rfl) (hK : X.K = F.K := by rfl) :
    PS X (.Expr (.Call (.Attribute (.Name x p1) "append" p2) [e] [] p3) pos) (upS F Cl W (dAppend i de)) := by
  refine ps_imp (ps_expr (pe _ _ _ mt_append hv (pa_cons h pa_nil hst)) hs) fun D σ H ⟨ρ, De, env, ⟨ds, hd, h⟩, k1, k2, k3, k4, k5⟩ => ?_
  obtain ⟨a, ha, o, h0, hO⟩ := env.own i _ hd
  cases o with
  | @lst xs _ e2 e3 =>
    refine ⟨.ref a, ha, .inl ⟨rfl, xs, SqL.of e2⟩, ρ, De.ex ρ, _, env, h, xo_of env k5, fun d ⟨hz, hq⟩ v H' x is => ?_⟩
    have e2' := x.at e2 (env.nb hO).1
    have e3' := e3.ex x env.osb
    refine ⟨a, xs, v, rfl, rfl, e2', by rw [e3.length]; exact hz, ?_⟩
    refine k1 _ hq _ _ ((env.ex' x).mutOwn hd ha (.lst (xs := xs ++ [v]) (ds := ds ++ [d]) upd_same ?_))
    have op : OS F σ ρ a := .inr ⟨i, _, hd, ha⟩
    exact (e3'.append (.cons is .nil)).mut op e2' (.inl ⟨_, rfl⟩) (env.nb hO).1 (env.nb hO).2
theorem sAug {i : Nat} {x : Str} {e : Expr} {pos pos' : Pos} {de : DE} (hN : X.N.Nodup) (hi : X.N[i]? = some x) (hx : Loc X.env.scope x) (h : PE X e (upE F Cl W de)) (hf : X.fn x = true ∨ X.env.scope.names.lookup x = some .local := by first | exact .inl rfl | exact .inr rfl) : PS X (.AugAssign (.Name x pos') .Add e pos) (upS F Cl W (dAug i de)) :=
  ps_imp (ps_aug hN hi hx h ip_add hf) fun D σ H ⟨ρ, De, env, ⟨a, ha, h⟩, k1, k2, k3, k4, k5⟩ => by
    obtain ⟨v, hv, is⟩ := env.val i _ ha
    cases is
    exact ⟨_, hv, ρ, De.ex ρ, _, env, h, xo_of env k5, fun d ⟨b, hd, q⟩ w H' x iw => by
      subst hd
      cases iw
      exact ⟨a, b, rfl, rfl, k1 _ q _ H' ((env.ex' x).set (.int _))⟩⟩
/-! ### calls of defs -/
def spF (w : World) (Cl : Str → Addr) (K : PySem.W.Frag) (m : DFn) : Sp := fun vs H Q E => ∃ (B : Bg) (O : Addr → Prop) (ds : List D) (Xd : Err → Prop) (Qd : D → Prop), B.w = w ∧ O B.b ∧ O B.l ∧ (∀ a, O a → H a ≠ none) ∧ IsL B O K H vs ds ∧ m ds Xd Qd ∧
  (∀ e, Xd e → ∀ dd v H', Ex B H H' → H' dd = some (.xd [(fldOf e.1, v)]) → Is B O K H' v e.2 → E (.ref (Cl e.1)) (some dd) H') ∧ ∀ d, Qd d → ∀ v H', Ex B H H' → Is B O K H' v d → Q v H'
/-- the name x is a def that does what m says, in at most level k -/
def Has (P : Program) (w : World) (K : PySem.W.Frag) (mg : Str → Option Value) (base : Heap) (Cl : Str → Addr) (x : Str) (k : Nat) (m : DFn) : Prop :=
  ∃ (f : Addr) (fd : FuncData) (ps : List Str), mg x = some (.ref f) ∧ PySem.W.keepIn K (.ref f) = true ∧ Binds K fd ps [] ∧ FnOk P w K mg base (L2.CX P w) k f fd ps (spF w Cl K m)
theorem Has.mono {P : Program} {w : World} {K : PySem.W.Frag} {mg : Str → Option Value} {base : Heap} {x : Str} {k j : Nat} {m : DFn} (h : Has P w K mg base Cl x k m) (hl : k ≤ j) : Has P w K mg base Cl x j m := by
  obtain ⟨f, fd, ps, h1, h2, h3, h5⟩ := h
  exact ⟨f, fd, ps, h1, h2, h3, h5.mono hl⟩
def dCall (m : DFn) (da : DA) : DE := fun ρ Xd Q => da ρ Xd fun ds => m ds Xd Q
theorem xCall {x : Str} {k : Nat} {m : DFn} {p pos : Pos} {e : Expr} {es : List Expr} {da : DA} (h : Has X.prog X.w X.K X.mg X.base Cl x k m) (hr : Room k X.A) (tk : Takes X W) (hg : Gl X x) (ha : PA X (e :: es) (upA F Cl W da))
    (hdb : (x == ("__debug__" : Str)) = false := by decide) (he : starEach (e :: es) X.env = (false, eval e X.env) :: starEach es X.env := by rfl) (hpl : (backTo pos (starEach es X.env)).any (·.1) = false := by rfl) (hK : X.K = F.K := by rfl) (hw : F.B.w = X.w := by rfl) :
    PE X (.Call (.Name x p) (e :: es) [] pos) (upE F Cl W (dCall m da)) := by
  obtain ⟨f, fd, ps, h1, h2, h3, h5⟩ := h
  refine pe_imp (pe_callS h5 hr hg h1 h2 h3 (fun σ => passAt tk σ) ha hdb he hpl) fun σ H Q ⟨ρ, Xd, Qd, env, h, xo, k⟩ => ?_
  refine ⟨ρ, Xd, _, env, h, xo, fun ds hd vs H1 e1 i1 => ?_⟩
  exact ⟨F.B, OS F σ ρ, ds, Xd, Qd, hw, env.osb, .inl env.ol, (env.ex' e1).oall, by rw [hK]; exact i1, hd, fun e he dd v H' x h3 h4 => xo e he dd v H' (e1.trans x) h3 (by rw [← hK]; exact h4), fun d hd v H' x i => k d hd v H' (e1.trans x) (by rw [← hK]; exact i)⟩
/-! ### a def of the text -/
def rho0 (n : Nat) (ds : List D) : Rho := ds.map (fun d => some (.val d)) ++ List.replicate (n - ds.length) none
/-- what a def of np parameters and n names does -/
def dFn (n np : Nat) (db : DS) : DFn := fun ds Xd Qd => ds.length = np ∧ db { nx := fun _ => Qd .non, rt := Qd, bk := fun _ => False, ct := fun _ => False, ex := fun _ e => Xd e } (rho0 n ds)
theorem env0 {B : Bg} {O : Addr → Prop} {K : PySem.W.Frag} {H : Hp} {vs : List V} {ds : List D} {N : List Str} (ob : O B.b) (ol : O B.l) (oa : ∀ a, O a → H a ≠ none) (r : IsL B O K H vs ds) : EnvOk ⟨B, O, K, H, [], fun _ _ _ => True⟩ H (L2.start N vs) (rho0 N.length ds) := by
  have hl := r.length
  have no : ∀ (i : Nat) (d : D), (rho0 N.length ds)[i]? ≠ some (some (.own d)) := fun i d h => by
    unfold rho0 at h
    rw [List.getElem?_append] at h
    split at h
    · rw [List.getElem?_map] at h
      cases q : ds[i]? with
      | none => rw [q] at h; cases h
      | some e => rw [q] at h; cases h
    · rw [List.getElem?_replicate] at h
      split at h <;> cases h
  have s : ∀ c, OS ⟨B, O, K, H, [], fun _ _ _ => True⟩ (L2.start N vs) (rho0 N.length ds) c → O c ∨ H c = none := fun c z => by
    rcases z with z | ⟨i, d, z, _⟩
    · exact .inl z
    · exact absurd z (no i d)
  refine ⟨Ex.refl _ _, ?_, ob, ol, oa, fun i d h => ?_, fun i d h => absurd h (no i d), fun i j d e a h => absurd h (no i d), fun p hp => nomatch hp⟩
  · unfold L2.start rho0
    rw [List.length_append, List.length_append, List.length_map, List.length_map, List.length_replicate, List.length_replicate, hl]
  · unfold rho0 at h
    rw [List.getElem?_append] at h
    split at h
    · rename_i hi
      rw [List.length_map] at hi
      rw [List.getElem?_map] at h
      cases q : ds[i]? with
      | none => rw [q] at h; cases h
      | some e =>
        rw [q] at h
        cases h
        obtain ⟨v, hv, is⟩ := r.get q
        refine ⟨v, ?_, is.sub s (.inl ob)⟩
        unfold L2.start
        rw [List.getElem?_append_left (by rw [List.length_map, hl]; exact hi), List.getElem?_map, hv]
        rfl
    · rw [List.getElem?_replicate] at h
      split at h <;> cases h
theorem has_of {P : Program} {w : World} {K : PySem.W.Frag} {mg : Str → Option Value} {base : Heap} {x qual : Str} {params : Arguments} {body : List Stmt} {scope : Scope} {kws : List (Str × V)} {f : Addr} {fd : FuncData} {N ps : List Str} {k n np : Nat} {db : DS}
    (D : FunD K x qual params body scope [] kws f fd) (g : mg x = some (.ref f)) (S : FnScope N ps scope) (hn : N.length = n) (hp : ps.length = np) (bi : Binds K fd ps [])
    (h : ∀ (cdv : Value) (A : Around) (outer : List Env) (s : Shared) (H : Hp) (E : XK) (b l : Addr) (O : Addr → Prop), Room k (A.deeper (envOfC qual scope s.heap.objs.size f cdv)) →
      PSs (cxOf (L2.CX P w) P w K mg base N qual scope f cdv A outer s H E) body (upS ⟨⟨b, l, w⟩, O, K, H, [], fun _ _ _ => True⟩ Cl (fun cls d _ H => E cls d H) db)) : Has P w K mg base Cl x (k + 1) (dFn n np db) := by
  refine ⟨f, fd, ps, g, D.kp, bi, D.ok S (fun vs H Q E ⟨B, O, ds, Xd, Qd, _, _, _, _, r, hm, _⟩ => by rw [r.length, hm.1, hp]) fun cdv A outer s H vs Q E hr ⟨⟨b, l, w'⟩, O, ds, Xd, Qd, hw, ob, ol, oa, r, hm, kx, kq⟩ => ?_⟩
  obtain rfl : w' = w := hw
  refine ⟨_, h cdv A outer s H E b l O hr, rho0 n ds, _, ?_, hm.2, fun _ h σ' H' e => ?_, fun d hd v H' x i _ => kq d hd v H' x i, fun _ h => h.elim, fun _ h => h.elim, fun ρ' e he σ' H' dd v env h1 h2 => ?_⟩
  · rw [← hn]; exact env0 ob ol oa r
  · exact kq _ h _ H' e.ex .non
  · exact kx e he dd v H' env.ex h1 (h2.sub (fun c z => .inl (.inl z)) ob)
/-! ### for -/
abbrev DI := Rho → (Err → Prop) → (List D → Prop) → Prop
/-- J gives the items of ds, as long as the value v is d -/
def Yl (B : Bg) (K : PySem.W.Frag) (J : It) (v : V) (d : D) (ds : List D) : Prop := ∀ (O : Addr → Prop) (H : Hp), O B.b → (∀ a, O a → H a ≠ none) → Is B O K H v d →
  (∀ (i : Nat) (x : D), ds[i]? = some x → J.go i H ∧ ∀ y H2, J.yld i H y H2 → Ex B H H2 ∧ Is B O K H2 y x) ∧ J.stop ds.length H
def upI (F : Fx) (Cl : Str → Addr) (W : WX) (di : DI) : TI := fun σ H R => ∃ ρ Xd Qd, EnvOk F H σ ρ ∧ di ρ Xd Qd ∧ XO F Cl W σ H ρ Xd ∧ ∀ ds, Qd ds → ∀ J v d H', Ex F.B H H' → Is F.B (OS F σ ρ) F.K H' v d → Yl F.B F.K J v d ds → R J H'
def Agree {α : Type} (vs : List Nat) (σ σ' : List α) : Prop := σ'.length = σ.length ∧ ∀ j, j ∉ vs → σ'[j]? = σ[j]?
abbrev DG := D → Rho → (Rho → Prop) → Prop
def upG (F : Fx) (vs : List Nat) (tg : DG) : TG := fun x σ H Q => ∃ ρ d Qd, EnvOk F H σ ρ ∧ Is F.B (OS F σ ρ) F.K H x d ∧ tg d ρ Qd ∧ ∀ ρ', Qd ρ' → ∀ σ', EnvOk F H σ' ρ' → Agree vs σ σ' → Agree vs ρ ρ' → Q σ' H
def tName (i : Nat) : DG := fun d ρ Q => Q (ρ.set i (some (.val d)))
theorem pg_imp {tg : Expr} {t t' : TG} (h : PG X tg t) (q : ∀ x σ H Q, t' x σ H Q → t x σ H Q) : PG X tg t' := ⟨fun pins s σ H v u Q I r z => h.run pins s σ H v u Q I r (q v σ H Q z)⟩
theorem pi_imp {tg e : Expr} {t t' : TI} (h : PI X tg e t) (q : ∀ σ H R, t' σ H R → t σ H R) : PI X tg e t' := ⟨fun pins s σ H R I z => h.run pins s σ H R I (q σ H R z)⟩
theorem gName1 {i : Nat} {x : Str} {pos : Pos} {vs : List Nat} (h : PG X (.Name x pos) (gName i)) (hi : i ∈ vs) : PG X (.Name x pos) (upG F vs (tName i)) := pg_imp h fun x σ H Q ⟨ρ, d, Qd, env, is, h, k⟩ =>
  k _ h _ (env.set is) ⟨by rw [List.length_set], fun j hj => by rw [List.getElem?_set_ne (fun e => hj (by rw [← e]; exact hi))]⟩ ⟨by rw [List.length_set], fun j hj => by rw [List.getElem?_set_ne (fun e => hj (by rw [← e]; exact hi))]⟩
/-- a, b -/
def tPair (i j : Nat) : DG := fun d ρ Q => ∃ a b, d = .tup [a, b] ∧ Q ((ρ.set i (some (.val a))).set j (some (.val b)))
def forD (tg : DG) (db : DS) : List D → DEnds → Rho → Prop
  | [], De, ρ => De.nx ρ
  | d :: r, De, ρ => tg d ρ fun ρ1 => db { De with nx := forD tg db r De, ct := forD tg db r De, bk := De.nx } ρ1
def dFor (di : DI) (tg : DG) (db : DS) : DS := fun De ρ => di ρ (De.ex ρ) fun ds => forD tg db ds De ρ
theorem pss_ex {ι : Type} {sts : List Stmt} {t : ι → TS} (h : ∀ g, PSs X sts (t g)) : PSs X sts (fun D σ H => ∃ g, t g D σ H) := ⟨fun pins s σ H D I ⟨g, z⟩ => (h g).run pins s σ H D I z⟩
theorem pe_ex {ι : Type} {e : Expr} {t : ι → TE} (h : ∀ g, PE X e (t g)) : PE X e (fun σ H Q => ∃ g, t g σ H Q) := ⟨fun pins s σ H Q I ⟨g, z⟩ => (h g).run pins s σ H Q I z⟩
theorem pts_ex {ι : Type} {e : List Expr} {t : ι → TT} (h : ∀ g, PTs X e (t g)) : PTs X e (fun σ H Q => ∃ g, t g σ H Q) := ⟨fun pins s σ H Q I ⟨g, z⟩ => (h g).run pins s σ H Q I z⟩
theorem pg_ex {ι : Type} {e : Expr} {t : ι → TG} (h : ∀ g, PG X e (t g)) : PG X e (fun x σ H Q => ∃ g, t g x σ H Q) := ⟨fun pins s σ H v u Q I r ⟨g, z⟩ => (h g).run pins s σ H v u Q I r z⟩
abbrev Fx.gh (F : Fx) (g : V × D) : Fx := { F with G := g :: F.G }
theorem sFor {tgt iter : Expr} {body : List Stmt} {pos : Pos} {di : DI} {tg : DG} {db : DS} {vs : List Nat} (hp : PassesOwn (model X.prog X.w) X.A X.env X.xe) (hc : X.calm = true) (hi : PI X tgt iter (upI F Cl W di)) (hg : ∀ g, PG X tgt (upG (F.gh g) vs tg)) (hb : ∀ g, PSs X body (upS (F.gh g) Cl W db)) (hs : ∀ x, foldedSetIterable iter X.env x = pure x := by intro _; rfl) :
    PS X (.For tgt iter body [] pos) (upS F Cl W (dFor di tg db)) := by
  refine ps_imp (ps_for hp hc hi (pg_ex hg) (pss_ex hb) hs) fun D σ H ⟨ρ, De, env, h, k1, k2, k3, k4, k5⟩ => ?_
  refine ⟨ρ, De.ex ρ, _, env, h, xo_of env k5, fun ds hd J v d H1 e1 is yl => ?_⟩
  refine ⟨fun i m σ' H' => ∃ ρ', EnvOk (F.gh (v, d)) H' σ' ρ' ∧ i ≤ ds.length ∧ m = ds.length - i ∧ forD tg db (ds.drop i) De ρ', ⟨ds.length, ρ, (env.ex' e1).ghost is, Nat.zero_le _, by simp, by simpa using hd⟩, ?_⟩
  rintro i m σ' H' ⟨ρ', env', hle, rfl, hf⟩
  have gi : Is F.B (OS F σ' ρ') F.K H' v d := env'.gh (v, d) (List.mem_cons_self ..)
  obtain ⟨y1, y2⟩ := yl (OS F σ' ρ') H' env'.osb env'.oall gi
  by_cases hlt : i < ds.length
  · have hx : ds[i]? = some ds[i] := by simp [hlt]
    rw [List.drop_eq_getElem_cons hlt] at hf
    obtain ⟨z1, z2⟩ := y1 i _ hx
    refine .inr ⟨z1, fun σ2 H2 => ∃ ρ2, EnvOk (F.gh (v, d)) H2 σ2 ρ2 ∧ forD tg db (ds.drop (i + 1)) De ρ2, fun σ2 H2 ⟨ρ2, q1, q2⟩ => ⟨ds.length - (i + 1), by omega, ρ2, q1, hlt, rfl, q2⟩, fun x H2 yd => ?_⟩
    obtain ⟨x1, x2⟩ := z2 x H2 yd
    refine ⟨(v, d), ρ', _, _, env'.ex' x1, x2, hf, fun ρ3 q3 σ3 env3 _ _ => ⟨(v, d), ρ3, _, env3, q3, fun ρ4 q4 σ4 H4 env4 => ⟨ρ4, env4, q4⟩, k2, fun ρ4 q4 σ4 H4 env4 => k1 ρ4 q4 σ4 H4 env4.unghost, fun ρ4 q4 σ4 H4 env4 => ⟨ρ4, env4, q4⟩, fun ρ4 e q4 σ4 H4 dd w env4 => k5 ρ4 e q4 σ4 H4 dd w env4.unghost⟩⟩
  · have e : i = ds.length := by omega
    subst e
    rw [List.drop_length] at hf
    exact .inl ⟨y2, k1 ρ' hf σ' H' env'.unghost⟩
end
end HD
/-! HD6: what is walked; comprehensions; while. -/
namespace HD
open PySem PyProof.Rows L2
section
variable {X : Cx} {F : Fx} {Cl : Str → Addr} {W : WX} {B : Bg}
/-! ### a list, a tuple, a text -/
def itemsOf : D → Option (List D)
  | .lst ds => some ds
  | .tup ds => some ds
  | .str s => some (s.cps.toList.map fun c => .str ⟨#[c]⟩)
  | .dct kvs => some (kvs.map (·.1))
  | _ => none
theorem it_list {tg : Expr} {pins : List (Addr × Obj)} {σ : L2.St} {H : Hp} {s : Shared} {R : It → Hp → Prop} {a : Addr} {xs : List V} (I : Inv X pins σ H s) (hq : SqL X.K H a xs) (q : R (Itl X.K a) H) :
    wpAny (model X.prog X.w) X.A (pyIter (.ref a)) (PIE X pins σ tg R) X.xe s := by
  obtain ⟨its, rv, pl, hz⟩ := I.list hq
  exact wpAny_pyIter_list pl.isList (pi_one (tk := s.toks) I _ (turn_list a _) ⟨_, Heap.get?_push_size _ rfl, rfl, rfl⟩ q)
theorem it_tup {tg : Expr} {pins : List (Addr × Obj)} {σ : L2.St} {H : Hp} {s : Shared} {R : It → Hp → Prop} {a : Addr} {xs : List V} (I : Inv X pins σ H s) (hq : SqT X.K H a xs) (q : R (Itt X.K a) H) :
    wpAny (model X.prog X.w) X.A (pyIter (.ref a)) (PIE X pins σ tg R) X.xe s := by
  obtain ⟨its, rv, pl, hz⟩ := I.tuple hq
  exact wpAny_pyIter_tuple (show s.heap.IsTuple a its.toArray from pl) (pi_one (tk := s.toks) I _ (turn_tuple a _) ⟨_, Heap.get?_push_size _ rfl, rfl, rfl⟩ q)
theorem it_str {tg : Expr} {pins : List (Addr × Obj)} {σ : L2.St} {H : Hp} {s : Shared} {R : It → Hp → Prop} {z : Str} {t : Tok} (I : Inv X pins σ H s) (q : R (Its z) H) :
    wpAny (model X.prog X.w) X.A (pyIter (.str z t)) (PIE X pins σ tg R) X.xe s := by
  cases hz : z.cps.all (· < 128)
  · exact wpAny_pyIter_wide hz (pi_one (tk := s.toks) I _ (turn_str _ z t "str_iterator" (.inr rfl)) ⟨_, Heap.get?_push_size _ rfl, rfl, rfl⟩ q)
  · exact wpAny_pyIter_ascii hz (pi_one (tk := s.toks) I _ (turn_str _ z t "str_ascii_iterator" (.inl rfl)) ⟨_, Heap.get?_push_size _ rfl, rfl, rfl⟩ q)
def dItems (de : DE) : DI := fun ρ Xd Q => de ρ Xd fun d => ∃ ds, itemsOf d = some ds ∧ Q ds
theorem yl_list {K : PySem.W.Frag} {a : Addr} {ds : List D} : Yl B K (Itl K a) (.ref a) (.lst ds) ds := fun O H ob oa is => by
  cases is with
  | lst ha na ra =>
    rename_i xs
    refine ⟨fun i x hx => ?_, ⟨xs, SqL.of ha, by rw [ra.length]; exact Nat.le_refl _⟩⟩
    obtain ⟨v, hv, iv⟩ := ra.get hx
    exact ⟨⟨xs, v, SqL.of ha, hv⟩, fun y H2 ⟨e, hy⟩ => by
      subst e
      have := hy xs (SqL.of ha)
      rw [hv] at this
      cases this
      exact ⟨Ex.refl _ _, iv⟩⟩
theorem yl_tup {K : PySem.W.Frag} {a : Addr} {ds : List D} : Yl B K (Itt K a) (.ref a) (.tup ds) ds := fun O H ob oa is => by
  cases is with
  | tup ha ra =>
    rename_i xs
    refine ⟨fun i x hx => ?_, ⟨xs, ha, by rw [ra.length]; exact Nat.le_refl _⟩⟩
    obtain ⟨v, hv, iv⟩ := ra.get hx
    exact ⟨⟨xs, v, ha, hv⟩, fun y H2 ⟨e, hy⟩ => by
      subst e
      have := hy xs ha
      rw [hv] at this
      cases this
      exact ⟨Ex.refl _ _, iv⟩⟩
theorem yl_str {K : PySem.W.Frag} {z : Str} : Yl B K (Its z) (.str z) (.str z) (z.cps.toList.map fun c => .str ⟨#[c]⟩) := fun O H ob oa is => by
  cases is with
  | str _ hz =>
    have hsz : z.cps.toList.length = z.cps.size := by simp
    refine ⟨fun i x hx => ?_, by show z.cps.size ≤ _; rw [List.length_map, hsz]; exact Nat.le_refl _⟩
    rw [List.getElem?_map] at hx
    cases q : z.cps.toList[i]? with
    | none => rw [q] at hx; cases hx
    | some c =>
      rw [q] at hx
      cases hx
      have hi : i < z.cps.size := by
        have := (List.getElem?_eq_some_iff.mp q).1
        omega
      have q2 : z.cps[i]? = some c := by rw [← Array.getElem?_toList]; exact q
      exact ⟨hi, fun y H2 ⟨e, c', hc, ey⟩ => by
        subst e ey
        rw [q2] at hc
        cases hc
        exact ⟨Ex.refl _ _, .str _ (okS_one hz (List.mem_of_getElem? q))⟩⟩
theorem yl_dct {K : PySem.W.Frag} {a : Addr} {o : Obj} {kv : List V} {ks : List D} : Yl B K (Itx a o kv) (.ref a) (.exo o kv ks) ks := fun O H ob oa is => by
  cases is with
  | exo ha na ra =>
    refine ⟨fun i x hx => ?_, ⟨ha, by rw [ra.length]; exact Nat.le_refl _⟩⟩
    obtain ⟨v, hv, iv⟩ := ra.get hx
    refine ⟨⟨ha, (List.getElem?_eq_some_iff.mp hv).1⟩, fun y H2 ⟨e, hy⟩ => ?_⟩
    subst e
    rw [hv] at hy
    cases hy
    exact ⟨Ex.refl _ _, iv⟩
theorem it_dct {tg : Expr} {pins : List (Addr × Obj)} {σ : L2.St} {H : Hp} {s : Shared} {R : It → Hp → Prop} {a : Addr} {o : Obj} {es : Array DictEntry} {ep : Nat} {kv : List V} (I : Inv X pins σ H s) (hd : H a = some (dX a o)) (hx : o.ExactDict) (hdt : o.data = .dict es ep) (hs : (a == sysModules) = false) (hv : Vals kv (es.toList.map (·.key))) (q : R (Itx a o kv) H) :
    wpAny (model X.prog X.w) X.A (pyIter (.ref a)) (PIE X pins σ tg R) X.xe s := by
  refine iter_keys hs (I.hok a _ hd).1 hx hdt (pi_one (tk := s.toks) I _ (turn_x _ hdt hv) ⟨_, Heap.get?_push_size _ rfl, rfl, ?_⟩ q)
  rw [ents_len hv] <;> rfl
theorem iSeq {tg e : Expr} {de : DE} (h : PE X e (upE F Cl W de)) (hK : X.K = F.K := by rfl) : PI X tg e (upI F Cl W (dItems de)) := by
  refine ⟨fun pins s σ H R I ⟨ρ, Xd, Qd, env, hd, xo, k⟩ => ?_⟩
  refine thn (h.run pins s σ H (fun v H' => ∃ d ds, Ex F.B H H' ∧ Is F.B (OS F σ ρ) F.K H' v d ∧ itemsOf d = some ds ∧ Qd ds) I ⟨ρ, Xd, _, env, hd, xo, fun d ⟨ds, h1, h2⟩ v H' x i => ⟨d, ds, x, i, h1, h2⟩⟩) fun v s1 ⟨y, H1, I1, r1, d, ds, x, is, h1, h2⟩ => ?_
  cases is with
  | lst ha na ra =>
    cases r1
    cases h1
    exact it_list I1 (SqL.of ha) (k _ h2 _ _ _ H1 x (.lst ha na ra) (by rw [← hK]; exact yl_list))
  | tup ha ra =>
    cases r1
    cases h1
    exact it_tup I1 (by rw [hK]; exact ha) (k _ h2 _ _ _ H1 x (.tup ha ra) (by rw [← hK]; exact yl_tup))
  | str z hz =>
    obtain ⟨t, rfl⟩ := r1
    cases h1
    exact it_str I1 (k _ h2 _ _ _ H1 x (.str z hz) yl_str)
  | dct ha na dq ra rb =>
    cases r1
    cases h1
    exact it_dct I1 ha dq.ex dq.dt dq.nm dq.k (k _ h2 _ _ _ H1 x (.exo ha na ra) (by rw [zip_keys (dct_len dq ra rb)]; exact yl_dct))
  | _ => cases h1
/-! ### ranges -/
def intsD (lo : Int) (n : Nat) : List D := (List.range n).map fun i => .int (lo + (i : Nat))
def dRng1 (da : DA) : DI := fun ρ Xd Q => da ρ Xd fun ds => ∃ j, ds = [.int j] ∧ -(2 ^ 62) ≤ j ∧ j < 2 ^ 62 ∧ Q (intsD 0 j.toNat)
def dRng2 (da : DA) : DI := fun ρ Xd Q => da ρ Xd fun ds => ∃ i j, ds = [.int i, .int j] ∧ (-(2 ^ 62) ≤ i ∧ i < 2 ^ 62 ∧ -(2 ^ 62) ≤ j ∧ j < 2 ^ 62) ∧ Q (intsD i (j - i).toNat)
theorem yl_rng {K : PySem.W.Frag} {lo : Int} {n : Nat} : Yl B K (Itr lo n) .non .non (intsD lo n) := fun O H ob oa is => by
  unfold intsD
  refine ⟨fun i x hx => ?_, by show n ≤ _; rw [List.length_map, List.length_range]; exact Nat.le_refl _⟩
  rw [List.getElem?_map] at hx
  by_cases hi : i < n
  · rw [List.getElem?_range hi] at hx
    cases hx
    exact ⟨hi, fun y H2 ⟨e, ey⟩ => by
      subst e ey
      exact ⟨Ex.refl _ _, .int _⟩⟩
  · rw [List.getElem?_eq_none (by rw [List.length_range]; omega)] at hx
    cases hx
theorem iRange1 {tg a : Expr} {p pos : Pos} {da : DA} (hg : Gl X "range") (hm : X.mg "range" = none) (ha : PA X [a] (upA F Cl W da)) (hs : starEach [a] X.env = [(false, eval a X.env)] := by rfl) : PI X tg (.Call (.Name "range" p) [a] [] pos) (upI F Cl W (dRng1 da)) :=
  pi_imp (pi_range1 hg hm ha hs) fun σ H R ⟨ρ, Xd, Qd, env, h, xo, k⟩ => ⟨ρ, Xd, _, env, h, xo, fun ds ⟨j, e, h1, h2, h3⟩ vs H' x is => by
    subst e
    obtain ⟨v, rfl, iv⟩ := one_of is
    cases iv
    exact ⟨j, rfl, h1, h2, k _ h3 _ _ _ H' x .non yl_rng⟩⟩
/-! ### comprehensions -/
def wipeR (ρ : Rho) : List Nat → Rho
  | [] => ρ
  | v :: vs => (wipeR ρ vs).set v none
theorem EnvOk.wipe {H : Hp} {σ : L2.St} {ρ : Rho} (e : EnvOk F H σ ρ) : ∀ vs : List Nat, EnvOk F H (L2.wipe σ vs) (wipeR ρ vs)
  | [] => e
  | v :: vs => (EnvOk.wipe e vs).unset
def noOwn (ρ : Rho) (vs : List Nat) : Bool := vs.all fun i => match ρ[i]? with
  | some (some (.own _)) => false
  | _ => true
theorem wipe_get {α : Type} (i : Nat) (n : α) : ∀ (vs : List Nat) (f : List Nat → List α) (l : List α), f [] = l → (∀ v r, f (v :: r) = (f r).set v n) → i ∉ vs → (f vs)[i]? = l[i]?
  | [], f, l, h0, _, _ => by rw [h0]
  | v :: r, f, l, h0, h1, hi => by
    rw [h1, List.getElem?_set_ne (fun e => hi (by rw [e]; exact List.mem_cons_self ..))]
    exact wipe_get i n r f l h0 h1 fun z => hi (List.mem_cons_of_mem _ z)
theorem wipe_in {α : Type} (i : Nat) (n : α) : ∀ (vs : List Nat) (f : List Nat → List α), (∀ v r, f (v :: r) = (f r).set v n) → i ∈ vs → (f vs)[i]? = none ∨ (f vs)[i]? = some n
  | v :: r, f, h1, hi => by
    rw [h1, List.getElem?_set]
    split
    · split
      · exact .inr rfl
      · exact .inl rfl
    · rename_i hne
      rcases List.mem_cons.mp hi with e | e
      · exact absurd e.symm hne
      · exact wipe_in i n r f h1 e
theorem os_wipe {σ : L2.St} {ρ : Rho} {vs : List Nat} (h : noOwn ρ vs = true) {a : Addr} (z : OS F σ ρ a) : OS F (L2.wipe σ vs) (wipeR ρ vs) a := by
  rcases z with z | ⟨i, d, z1, z2⟩
  · exact .inl z
  · have hi : i ∉ vs := fun hm => by
      have q := List.all_eq_true.mp h i hm
      rw [z1] at q
      cases q
    refine .inr ⟨i, d, ?_, ?_⟩
    · rw [wipe_get i none vs (wipeR ρ) ρ rfl (fun _ _ => rfl) hi]; exact z1
    · rw [wipe_get i none vs (L2.wipe σ) σ rfl (fun _ _ => rfl) hi]; exact z2
theorem wipe_agree {σ σ2 : L2.St} {vs : List Nat} (h : Agree vs (L2.wipe σ vs) σ2) : L2.wipe σ2 vs = L2.wipe σ vs := by
  apply List.ext_getElem?
  intro i
  have hl : σ2.length = σ.length := by rw [h.1, wipe_length]
  by_cases hi : i ∈ vs
  · by_cases hlt : i < σ.length
    · have e1 : ∀ (τ : L2.St), i < τ.length → (L2.wipe τ vs)[i]? = some none := fun τ ht => by
        rcases wipe_in i none vs (L2.wipe τ) (fun _ _ => rfl) hi with q | q
        · rw [List.getElem?_eq_none_iff, wipe_length] at q; omega
        · exact q
      rw [e1 σ2 (by omega), e1 σ hlt]
    · rw [List.getElem?_eq_none (by rw [wipe_length]; omega), List.getElem?_eq_none (by rw [wipe_length]; omega)]
  · rw [wipe_get i none vs (L2.wipe σ2) σ2 rfl (fun _ _ => rfl) hi, h.2 i hi]
/-- one item after the other -/
def lcD (tg : DG) (dt : DT) (de : DE) : List D → List D → Rho → (List D → Prop) → Prop
  | [], acc, _, Q => Q acc
  | d :: r, acc, ρ, Q => tg d ρ fun ρ1 => dt ρ1 (fun _ => False) fun c => if c = true then de ρ1 (fun _ => False) (fun y => acc.length < sizeLine ∧ lcD tg dt de r (acc ++ [y]) ρ Q) else lcD tg dt de r acc ρ Q
def dLc (di : DI) (tg : DG) (dt : DT) (de : DE) (vs : List Nat) : DE := fun ρ Xd Q => noOwn ρ vs = true ∧ di ρ Xd fun ds => lcD tg dt de ds [] (wipeR ρ vs) fun acc => Q (.lst acc)
def WF : WX := fun _ _ _ _ => False
/-- within a comprehension -/
abbrev Fx.wg (F : Fx) (g : (V × D) × Addr) : Fx := (F.gh g.1).bar g.2
def dYes : DT := fun _ _ Q => Q true
theorem tYesD : PTs X [] (upT F Cl W dYes) := pts_imp pts_nil fun σ H Q ⟨ρ, Xd, Qd, env, h, xo, k⟩ => k true h H (Ex.refl _ _)
theorem tOneD {c : Expr} {dt : DT} (h : PT X c (upT F Cl W dt)) : PTs X [c] (upT F Cl W dt) := pts_one h
theorem up_lc {di : DI} {tg : DG} {dt : DT} {de : DE} {vs : List Nat} : ∀ σ H Q, upN F Cl W (dLc di tg dt de vs) σ H Q →
    tLc (upI F Cl W di) (fun x σ H Q => ∃ g, upG (F.wg g) vs tg x σ H Q) (fun σ H Q => ∃ g, upT (F.wg g) Cl WF dt σ H Q) (fun σ H Q => ∃ g, upE (F.wg g) Cl WF de σ H Q) vs σ H Q := by
  rintro σ H Q ⟨ρ, Xd, Qd, env, ⟨hno, h⟩, xo, k⟩
  refine ⟨ρ, Xd, _, env, h, xo, fun ds hd J v d H1 e1 is yl D hD => ?_⟩
  have envS : EnvOk (F.wg ((v, d), D)) (upd H1 D (.lst [])) (L2.wipe σ vs) (wipeR ρ vs) := by
    have z := ((env.ex' e1).ghost is).wipe vs
    exact z.bar hD
  have nb : D ≠ F.B.b ∧ D ≠ F.B.l := ⟨fun z => (env.ex' e1).oa F.B.b env.ob (by rw [← z]; exact hD), fun z => (env.ex' e1).oa F.B.l env.ol (by rw [← z]; exact hD)⟩
  have h0 : F.H0 D = none := (env.ex' e1).ex.free hD
  refine ⟨fun i m H' => EnvOk (F.wg ((v, d), D)) H' (L2.wipe σ vs) (wipeR ρ vs) ∧ i ≤ ds.length ∧ m = ds.length - i ∧ Ex F.B H1 H' ∧ ∃ acc xs, H' D = some (.lst xs) ∧ IsL F.B (OS (F.wg ((v, d), D)) (L2.wipe σ vs) (wipeR ρ vs)) F.K H' xs acc ∧ lcD tg dt de (ds.drop i) acc (wipeR ρ vs) (fun acc => Qd (.lst acc)),
    ⟨ds.length, envS, Nat.zero_le _, by simp, Ex.new hD, [], [], upd_same, .nil, by simpa using hd⟩, ?_⟩
  rintro i m H' ⟨env', hle, rfl, x1, acc, xs, hx, ia, hf⟩
  have gi : Is F.B (OS (F.wg ((v, d), D)) (L2.wipe σ vs) (wipeR ρ vs)) F.K H' v d := env'.gh (v, d) (List.mem_cons_self ..)
  obtain ⟨y1, y2⟩ := yl _ H' env'.osb env'.oall gi
  by_cases hlt : i < ds.length
  · have hx2 : ds[i]? = some ds[i] := by simp [hlt]
    rw [List.drop_eq_getElem_cons hlt] at hf
    obtain ⟨z1, z2⟩ := y1 i _ hx2
    refine .inr ⟨z1, fun H2 => EnvOk (F.wg ((v, d), D)) H2 (L2.wipe σ vs) (wipeR ρ vs) ∧ Ex F.B H1 H2 ∧ ∃ acc xs, H2 D = some (.lst xs) ∧ IsL F.B (OS (F.wg ((v, d), D)) (L2.wipe σ vs) (wipeR ρ vs)) F.K H2 xs acc ∧ lcD tg dt de (ds.drop (i + 1)) acc (wipeR ρ vs) (fun acc => Qd (.lst acc)),
      fun H2 ⟨q1, q2, q3⟩ => ⟨ds.length - (i + 1), by omega, q1, hlt, rfl, q2, q3⟩, fun x H2 yd => ?_⟩
    obtain ⟨w1, w2⟩ := z2 x H2 yd
    refine ⟨((v, d), D), wipeR ρ vs, _, _, env'.ex' w1, w2, hf, fun ρ3 q3 σ3 env3 ag agr => ⟨wipe_agree ag, ((v, d), D), ρ3, _, _, env3, q3, fun e he => he.elim, fun c hc H4 x4 => ?_⟩⟩
    have so : ∀ a, OS (F.wg ((v, d), D)) (L2.wipe σ vs) (wipeR ρ vs) a → OS (F.wg ((v, d), D)) σ3 ρ3 a := fun a z => by
      rcases z with z | ⟨j, u, z1, z2⟩
      · exact .inl z
      · have hj : j ∉ vs := fun hm => by
          rcases wipe_in j none vs (wipeR ρ) (fun _ _ => rfl) hm with q | q
          · rw [q] at z1; cases z1
          · rw [q] at z1; cases z1
        exact .inr ⟨j, u, by rw [agr.2 j hj]; exact z1, by rw [ag.2 j hj]; exact z2⟩
    have x14 := w1.trans x4
    have nbD : ∀ {Ha Hb : Hp} {o : HO}, Ex F.B Ha Hb → Ha D = some o → Hb D = some o := fun x e => x.at e nb.1
    cases c with
    | false =>
      show EnvOk _ H4 _ _ ∧ _
      exact ⟨env'.ex' x14, x1.trans x14, acc, xs, nbD x14 hx, ia.ex x14 env'.osb, hc⟩
    | true =>
      refine ⟨((v, d), D), ρ3, _, _, env3.ex' x4, hc, fun e he => he.elim, fun y ⟨hz, hy⟩ u H5 x5 iu => ?_⟩
      have x15 := x14.trans x5
      have hx5 := nbD x15 hx
      have ia5 := ia.ex x15 env'.osb
      have iu5 : Is F.B (OS (F.wg ((v, d), D)) (L2.wipe σ vs) (wipeR ρ vs)) F.K H5 u y := iu.sub (fun a z => .inl (so a z)) env'.osb
      refine ⟨xs, hx5, by rw [ia.length]; exact hz, ?_⟩
      refine ⟨(env'.ex' x15).barMut hx5 (.inl ⟨_, rfl⟩) h0 nb.1 nb.2, (x1.trans x15).mutN hD nb.1 nb.2, acc ++ [y], xs ++ [u], upd_same, ?_, hy⟩
      exact (ia5.append (.cons iu5 .nil)).mut (.inl (.inr rfl)) hx5 (.inl ⟨_, rfl⟩) nb.1 nb.2
  · have e : i = ds.length := by omega
    subst e
    rw [List.drop_length] at hf
    refine .inl ⟨y2, k _ hf D H' (e1.trans x1) (e1.free hD) (.lst hx (ia.sub (fun c z => ?_) (.inl env.osb)))⟩
    rcases z with z | z
    · refine .inl ?_
      rcases os_wipe hno z with q | q
      · exact .inl (.inl q)
      · exact .inr q
    · exact .inl (.inl (.inr z))
abbrev Blk (X : Cx) (scope : Scope) (s : Shared) (H : Hp) (C : Addr) (cl : List (Str × Addr)) (fp : List Addr) : Cx := X.blk s H scope (compEnvC scope cl C X.env) fp
theorem nLc {elt tg iter : Expr} {ifs : List Expr} {scope : Scope} {own : List (Str × Nat)} {pos : Pos} {di : DI} {dg : DG} {dt : DT} {de : DE} (hc : X.calm = true) (hN : X.N.Nodup) (ok : BlkOk X.N X.env.scope scope own) (hi : PI X tg iter (upI F Cl W di))
    (hg : ∀ g s H C cl fp, PG (Blk X scope s H C cl fp) tg (upG (F.wg g) (own.map (·.2)) dg)) (ht : ∀ g s H C cl fp, PTs (Blk X scope s H C cl fp) ifs (upT (F.wg g) Cl WF dt)) (he : ∀ g s H C cl fp, PE (Blk X scope s H C cl fp) elt (upE (F.wg g) Cl WF de))
    (hs : ∀ x, foldedSetIterable iter X.env x = pure x := by intro _; rfl) : PE X (.ListComp elt [⟨tg, iter, ifs, 0⟩] scope pos) (upN F Cl W (dLc di dg dt de (own.map (·.2)))) :=
  pe_imp (pe_lc hc hN hi ok (fun s H C cl fp => pg_ex fun g => hg g s H C cl fp) (fun s H C cl fp => pts_ex fun g => ht g s H C cl fp) (fun s H C cl fp => pe_ex fun g => he g s H C cl fp) hs) up_lc
theorem sLcSet {i : Nat} {y : Str} {py : Pos} {elt tg iter : Expr} {ifs : List Expr} {scope : Scope} {own : List (Str × Nat)} {pos spos : Pos} {di : DI} {dg : DG} {dt : DT} {de : DE} (hc : X.calm = true) (hN : X.N.Nodup) (hy : X.N[i]? = some y) (hyl : X.env.scope.names.lookup y = some .local)
    (hsw : swapsWith (.ListComp elt [⟨tg, iter, ifs, 0⟩] scope pos) (some (.Name y py)) spos.line X.env = pure true) (ok : BlkOk X.N X.env.scope scope own) (hi : PI X tg iter (upI F Cl W di))
    (hg : ∀ g s H C cl fp, PG (Blk X scope s H C cl fp) tg (upG (F.wg g) (own.map (·.2)) dg)) (ht : ∀ g s H C cl fp, PTs (Blk X scope s H C cl fp) ifs (upT (F.wg g) Cl WF dt)) (he : ∀ g s H C cl fp, PE (Blk X scope s H C cl fp) elt (upE (F.wg g) Cl WF de))
    (hs : ∀ x, foldedSetIterable iter X.env x = pure x := by intro _; rfl) : PS X (.Assign [.Name y py] (.ListComp elt [⟨tg, iter, ifs, 0⟩] scope pos) spos) (upS F Cl W (dAsg i (dLc di dg dt de (own.map (·.2))))) :=
  ps_imp (ps_setLc hc hN hy hyl hsw hi ok (fun s H C cl fp => pg_ex fun g => hg g s H C cl fp) (fun s H C cl fp => pts_ex fun g => ht g s H C cl fp) (fun s H C cl fp => pe_ex fun g => he g s H C cl fp) hs) fun D σ H ⟨ρ, De, env, h, k1, k2, k3, k4, k5⟩ =>
    up_lc σ H _ ⟨ρ, De.ex ρ, _, env, h, xo_of env k5, fun d hd a H' x n o => k1 _ hd _ H' ((env.ex' x).set (OwnAt.is o (fun _ z => .inl z) env.osb fun z => env.oall a z n))⟩
/-! ### while -/
def dWhile (c : DT) (b : DS) : DS := fun De ρ => ∃ I : Nat → Rho → Prop, (∃ m, I m ρ) ∧ ∀ m ρ, I m ρ → c ρ (De.ex ρ) fun t => if t = true then b { De with nx := fun ρ' => ∃ m', m' < m ∧ I m' ρ', ct := fun ρ' => ∃ m', m' < m ∧ I m' ρ', bk := De.nx } ρ else De.nx ρ
theorem sWhile {c : Expr} {body : List Stmt} {pos : Pos} {dt : DT} {db : DS} (hp : PassesOwn (model X.prog X.w) X.A X.env X.xe) (hc : PT X c (upT F Cl W dt)) (hb : PSs X body (upS F Cl W db)) : PS X (.While c body [] pos) (upS F Cl W (dWhile dt db)) := by
  refine ps_imp (ps_while hp hc hb) fun D σ H ⟨ρ, De, env, ⟨I, ⟨m, hm⟩, h⟩, k1, k2, k3, k4, k5⟩ => ?_
  refine ⟨fun m σ H => ∃ ρ, EnvOk F H σ ρ ∧ I m ρ, ⟨m, ρ, env, hm⟩, fun m σ H ⟨ρ, env, hi⟩ => ?_⟩
  refine ⟨ρ, De.ex ρ, _, env, h m ρ hi, xo_of env k5, fun t ht H1 x => ?_⟩
  cases t with
  | false => exact k1 ρ ht σ H1 (env.ex' x)
  | true =>
    refine ⟨fun σ' H' => ∃ m', m' < m ∧ ∃ ρ', EnvOk F H' σ' ρ' ∧ I m' ρ', fun σ' H' ⟨m', q1, ρ', q2, q3⟩ => ⟨m', q1, ρ', q2, q3⟩, ?_⟩
    exact ⟨ρ, _, env.ex' x, ht, fun ρ' ⟨m', q1, q2⟩ σ' H' e' => ⟨m', q1, ρ', e', q2⟩, k2, fun ρ' q σ' H' e' => k1 ρ' q σ' H' e', fun ρ' ⟨m', q1, q2⟩ σ' H' e' => ⟨m', q1, ρ', e', q2⟩, k5⟩
/-! ### code that is never come to -/
def dNever : DS := fun _ _ => False
def dNo : DE := fun _ _ _ => False
end
end HD
/-! HD7: own lists read, methods of texts. -/
namespace HD
open PySem PyProof.Rows L2
section
variable {X : Cx} {F : Fx} {Cl : Str → Addr} {W : WX} {B : Bg}
theorem flat_is {O O' : Addr → Prop} {K : PySem.W.Frag} {H : Hp} {v : V} {d : D} (h : Is B O K H v d) (f : flatD d = true) : Is B O' K H v d := by
  cases h with
  | non => exact .non
  | bl c => exact .bl c
  | int i => exact .int i
  | str s h => exact .str s h
  | _ => cases f
/-- an own list or dict as a value, for a while -/
theorem EnvOk.lend {H : Hp} {σ : L2.St} {ρ : Rho} (env : EnvOk F H σ ρ) {i : Nat} {d : D} (h : ρ[i]? = some (some (.own d))) : ∃ (a : Addr) (O' : Addr → Prop), σ[i]? = some (some (.ref a)) ∧ O' F.B.b ∧ O' F.B.l ∧ (∀ c, O' c → OS F σ ρ c) ∧ (∀ c, O' c → H c ≠ none) ∧ Is F.B O' F.K H (.ref a) d := by
  obtain ⟨a, ha, o, h0, hO⟩ := env.own i d h
  refine ⟨a, fun c => OS F σ ρ c ∧ c ≠ a, ha, ⟨env.osb, (env.nb hO).1.symm⟩, ⟨.inl env.ol, (env.nb hO).2.symm⟩, fun c z => z.1, fun c z => env.oall c z.1, ?_⟩
  exact OwnAt.is o (fun c z => z.1) ⟨env.osb, (env.nb hO).1.symm⟩ fun z => z.2 rfl
/-- a op own -/
def dOpOwn (r : D2) (da : DE) (i : Nat) : DE := fun ρ Xd Q => ∃ d, ρ[i]? = some (some (.own d)) ∧ da ρ Xd fun x => r x d fun z => flatD z = true ∧ Q z
theorem up_opOwn {r : R2} {r' : D2} {da : DE} {i : Nat} (hs : OpS F.B F.K r r') : ∀ σ H Q, upE F Cl W (dOpOwn r' da i) σ H Q → tOp r (upE F Cl W da) (tVar i) σ H Q := fun σ H Q ⟨ρ, Xd, Qd, env, ⟨d, hd, h1⟩, xo, k⟩ =>
  ⟨ρ, Xd, _, env, h1, xo, fun dx hx x H1 e1 i1 => by
    obtain ⟨a, O', ha, ob, ol, s, oa, is⟩ := (env.ex' e1).lend hd
    refine ⟨.ref a, ha, hs O' H1 x (.ref a) dx d _ Q ob oa (i1.sub (fun c z => .inl (s c z)) ob) is hx fun z ⟨hf, hz⟩ v H' e3 i3 => k z hz v H' (e1.trans e3) (flat_is i3 hf)⟩⟩
theorem yCmpOwn {a b : Expr} {op : CmpOp} {pos : Pos} {r' : D2} {da : DE} {i : Nat} (ho : OpD X F.B (compareOp op) r') (ha : PE X a (upE F Cl W da)) (hb : PE X b (tVar i)) (hm : behindInMarks op b = false := by rfl) (hK : X.K = F.K := by rfl) : PT X (.Compare a [op] [b] pos) (upT F Cl W (dTest (dOpOwn r' da i))) := by
  obtain ⟨r, h1, h2⟩ := ho
  exact pt_imp (pt_cmpR h1 ha hb hm) fun σ H Q h => up_opOwn (by rw [← hK]; exact h2) σ H _ (up_test σ H Q h)
/-- f(own) of a built-in, a flat answer -/
def dCBOwn (r : DR) (i : Nat) : DE := fun ρ Xd Q => ∃ d, ρ[i]? = some (some (.own d)) ∧ r [d] fun z => flatD z = true ∧ Q z
/-- own[k], an item that knows no list -/
def dIxOwn (i : Nat) (db : DE) : DE := fun ρ Xd Q => ∃ ds, ρ[i]? = some (some (.own (.lst ds))) ∧ db ρ Xd fun y => ∃ k d, y = .int k ∧ atI ds k = some d ∧ Q d
/-! ### methods of texts -/
def dJoin (da db : DE) : DE := fun ρ Xd Q => da ρ Xd fun x => ∃ s, x = .str s ∧ db ρ Xd fun y => ∃ ys : List Str, (y = .lst (ys.map D.str) ∨ y = .tup (ys.map D.str)) ∧ (ys.map (·.length)).sum + ys.length * s.length ≤ 16777216 ∧ okS (Txt.join s ys) ∧ Q (.str (Txt.join s ys))
theorem xJoin {o e : Expr} {apos pos : Pos} {da db : DE} (ha : PE X o (upE F Cl W da)) (hb : PE X e (upE F Cl W db)) (hs : starEach [e] X.env = [(false, eval e X.env)] := by rfl) (hbase : attributeBase o "join" X.env (eval o X.env) = eval o X.env := by rfl) (hline : (apos.endLine == pos.line) = true := by rfl) (hK : X.K = F.K := by rfl) :
    PE X (.Call (.Attribute o "join" apos) [e] [] pos) (upE F Cl W (dJoin da db)) := pe_imp (pe_join ha hb hs hbase hline) fun σ H Q ⟨ρ, Xd, Qd, env, h, xo, k⟩ => by
  refine ⟨ρ, Xd, _, env, h, xo, fun d ⟨s, hd, h2⟩ v H1 x1 iv => ?_⟩
  subst hd
  cases iv with
  | str _ hs0 =>
    refine ⟨⟨s, rfl⟩, ρ, Xd, _, env.ex' x1, h2, xo.ex x1, fun y ⟨ys, hy, hz, hk, hq⟩ u H2 x2 iu => ?_⟩
    have fin := k _ hq (.str (Txt.join s ys)) H2 (x1.trans x2) (.str _ hk)
    rcases hy with hy | hy
    · subst hy
      cases iu with
      | lst ha' na ra => exact ⟨s, _, ys, rfl, rfl, .inl (by rw [← (strs_of ra).1]; exact SqL.of ha'), hz, fin⟩
    · subst hy
      cases iu with
      | tup ha' ra => exact ⟨s, _, ys, rfl, rfl, .inr (by rw [← (strs_of ra).1, hK]; exact ha'), hz, fin⟩
def dStarts (da : DE) (db : DA) : DE := fun ρ Xd Q => da ρ Xd fun x => ∃ s, x = .str s ∧ db ρ Xd fun ys => ∃ t i, ys = [.str t, .int i] ∧ Q (.bl (Txt.startswith3 s t i))
theorem xStarts {o e1 e2 : Expr} {apos pos : Pos} {da : DE} {db : DA} (ha : PE X o (upE F Cl W da)) (hb : PA X [e1, e2] (upA F Cl W db)) (hbase : attributeBase o "startswith" X.env (eval o X.env) = eval o X.env := by rfl)
    (hfew : ((backTo pos (starEach [e1, e2] X.env)).all (fun x => !x.1) && (backToKw pos (keywordEach [] X.env)).all (fun x => x.1.isSome) && decide ([e1, e2].length + ([] : List Keyword).length + (if ([] : List Keyword).isEmpty then 0 else 1) < 30)) = true := by rfl)
    (hline : (apos.endLine == pos.line) = true := by rfl) (hs : starEach [e1, e2] X.env = (false, eval e1 X.env) :: starEach [e2] X.env := by rfl) (hplain : (backTo pos (starEach [e2] X.env)).any (·.1) = false := by rfl) :
    PE X (.Call (.Attribute o "startswith" apos) [e1, e2] [] pos) (upE F Cl W (dStarts da db)) := pe_imp (pe_bm PySem.F.plainAttrs_str PySem.F.slot_str_startswith PySem.F.type_str_startswith mt_startswith3 ha hb hbase hfew hline hs hplain) fun σ H Q ⟨ρ, Xd, Qd, env, h, xo, k⟩ => by
  refine ⟨ρ, Xd, _, env, h, xo, fun d ⟨s, hd, h2⟩ v H1 x1 iv => ?_⟩
  subst hd
  cases iv
  refine ⟨rfl, ρ, Xd, _, env.ex' x1, h2, xo.ex x1, fun ys ⟨t, i, hy, hq⟩ us H2 x2 iu => ?_⟩
  subst hy
  obtain ⟨u1, u2, rfl, i1, i2⟩ := two_of iu
  cases i1
  cases i2
  exact ⟨s, t, i, rfl, rfl, k _ hq _ H2 (x1.trans x2) (.bl _)⟩
/-! ### a written table: text keys, int values -/
def dInTab (neg : Bool) (tab : List (Str × D)) (da : DE) : DE := fun ρ Xd Q => da ρ Xd fun x => ∃ s, x = .str s ∧ Q (.bl (neg ^^ (tab.lookup s).isSome))
def dIxTab (tab : List (Str × D)) (da : DE) : DE := fun ρ Xd Q => da ρ Xd fun x => ∃ s d, x = .str s ∧ tab.lookup s = some d ∧ Q d
/-- the dict at a of the top: these keys and values -/
structure TabAt (X : Cx) (a : Addr) (tab : List (Str × D)) : Prop where
  dict : ∃ es n, KDict X.K X.w a es n
  has : ∀ (s : Str) (d : D), tab.lookup s = some d → ∃ u v, PySem.W.nsIn X.K a s = some (some u) ∧ RelV v u ∧ ∀ B O H, Is B O X.K H v d
  not : ∀ (s : Str), tab.lookup s = none → PySem.W.nsIn X.K a s = some none
theorem yNotInTab {a b : Expr} {pos : Pos} {da : DE} {p : Addr} {tab : List (Str × D)} (T : TabAt X p tab) (ha : PE X a (upE F Cl W da)) (hb : PE X b (tC (.ref p))) (hm : behindInMarks .NotIn b = false := by rfl) : PT X (.Compare a [.NotIn] [b] pos) (upT F Cl W (dTest (dInTab true tab da))) := by
  obtain ⟨es, n, kd⟩ := T.dict
  refine pt_imp (pt_cmpR (op_notIn_kd kd) ha hb hm) fun σ H Q h => ?_
  obtain ⟨ρ, Xd, Qd, env, h, xo, k⟩ := up_test σ H Q h
  refine ⟨ρ, Xd, _, env, h, xo, fun d ⟨s, hd, q⟩ v H1 x1 iv => ?_⟩
  subst hd
  cases iv
  rw [xor_t] at q
  cases e : tab.lookup s with
  | none => rw [e] at q; exact ⟨s, none, rfl, rfl, T.not s e, k _ q _ H1 x1 (.bl _)⟩
  | some d =>
    rw [e] at q
    obtain ⟨u, w, h1, _⟩ := T.has s d e
    exact ⟨s, some u, rfl, rfl, h1, k _ q _ H1 x1 (.bl _)⟩
theorem xIxTab {a b : Expr} {pos : Pos} {db : DE} {p : Addr} {tab : List (Str × D)} (T : TabAt X p tab) (ha : PE X a (tC (.ref p))) (hb : PE X b (upE F Cl W db)) (hs : PlainIx b := by exact fun _ _ => rfl) (hK : X.K = F.K := by rfl) : PE X (.Subscript a b pos) (upE F Cl W (dIxTab tab db)) := by
  obtain ⟨es, n, kd⟩ := T.dict
  refine pe_imp (pe_ix ix_kdict ha hb hs) fun σ H Q ⟨ρ, Xd, Qd, env, h, xo, k⟩ => ⟨ρ, Xd, _, env, h, xo, fun x ⟨s, d, hx, hd, q⟩ v H1 x1 iv => ?_⟩
  subst hx
  cases iv
  obtain ⟨u, w, h1, h2, h3⟩ := T.has s d hd
  exact ⟨p, s, w, rfl, rfl, ⟨es, n, u, kd.at_, kd.lit, h1, h2⟩, k _ q _ H1 x1 (by rw [← hK]; exact h3 _ _ _)⟩
end
end HD
/-! HD8: short words for printed derivations. -/
namespace HD
open PySem PyProof.Rows L2
abbrev rSub : D2 := rInts CT fun i j => .int (i - j)
abbrev rMul : D2 := rInts CMul fun i j => .int (i * j)
abbrev rMod : D2 := rInts (fun _ j => 0 < j) fun i j => .int (i % j)
abbrev rFd : D2 := rInts CDivW fun i j => .int (i / j)
abbrev rLt : D2 := rInts CT fun i j => .bl (decide (i < j))
abbrev rLe : D2 := rInts CT fun i j => .bl (decide (i ≤ j))
abbrev rGt : D2 := rInts CT fun i j => .bl (decide (j < i))
abbrev rGe : D2 := rInts CT fun i j => .bl (decide (j ≤ i))
section
variable {X : Cx} {F : Fx} {Cl : Str → Addr} {W : WX}
theorem hu65 {k : Nat} {A : Around} (r : Room k A) : A.units + 65 < cLine := by have := r.un; omega
theorem hu64 {k : Nat} {A : Around} (r : Room k A) : A.units + 190 < cLine := by have := r.un; omega
theorem xGStr {x z : Str} {pos : Pos} (h : ∃ t, X.mg x = some (.str z t)) (ok : okS z) (hg : Gl X x := by rfl) (hd : (x == ("__debug__" : Str)) = false := by decide) : PE X (.Name x pos) (upE F Cl W (dC (.str z))) := by
  obtain ⟨t, e⟩ := h
  exact pe_imp (pe_glob (v := .str z) hg e ⟨t, rfl⟩ hd) fun σ H Q ⟨ρ, Xd, Qd, env, h1, xo, k⟩ => k _ h1 _ H (Ex.refl _ _) (.str z ok)
theorem xGInt {x : Str} {i : Int} {pos : Pos} (h : ∃ t, X.mg x = some (.int i t)) (hg : Gl X x := by rfl) (hd : (x == ("__debug__" : Str)) = false := by decide) : PE X (.Name x pos) (upE F Cl W (dC (.int i))) := by
  obtain ⟨t, e⟩ := h
  exact pe_imp (pe_glob (v := .int i) hg e ⟨t, rfl⟩ hd) fun σ H Q ⟨ρ, Xd, Qd, env, h1, xo, k⟩ => k _ h1 _ H (Ex.refl _ _) (.int i)
/-- a tuple of texts of the top -/
theorem strs_is {B : Bg} {O : Addr → Prop} {K : PySem.W.Frag} {H : Hp} : ∀ {zs : List Str}, (∀ z ∈ zs, okS z) → IsL B O K H (zs.map V.str) (zs.map D.str)
  | [], _ => .nil
  | z :: r, h => .cons (.str z (h z (List.mem_cons_self ..))) (strs_is fun y hy => h y (List.mem_cons_of_mem _ hy))
theorem xGTup {x : Str} {a : Addr} {zs : List Str} {pos : Pos} (h : X.mg x = some (.ref a)) (t : ∀ H, SqT X.K H a (zs.map V.str)) (ok : (zs.all fun z => decide (z.length ≤ 1000) && PySem.PyData.strOk z) = true) (hg : Gl X x := by rfl) (hd : (x == ("__debug__" : Str)) = false := by decide) (hK : X.K = F.K := by rfl) : PE X (.Name x pos) (upE F Cl W (dC (.tup (zs.map D.str)))) :=
  pe_imp (pe_glob (v := .ref a) hg h rfl hd) fun σ H Q ⟨ρ, Xd, Qd, env, h1, xo, k⟩ => k _ h1 _ H (Ex.refl _ _) (.tup (by rw [← hK]; exact t H) (strs_is fun z hz => okS_by (List.all_eq_true.mp ok z hz)))
/-- a written table's name -/
theorem pGRef {x : Str} {a : Addr} {pos : Pos} (h : X.mg x = some (.ref a)) (hg : Gl X x := by rfl) (hd : (x == ("__debug__" : Str)) = false := by decide) : PE X (.Name x pos) (tC (.ref a)) := pe_glob hg h rfl hd
theorem sAppendX {i : Nat} {x : Str} {e : Expr} {p1 p2 p3 pos : Pos} {de : DE} (hv : PE X (.Name x p1) (tVar i)) (h : PE X e (upE F Cl W de)) (hs : swapsWith (.Call (.Attribute (.Name x p1) "append" p2) [e] [] p3) none pos.line X.env = pure false := by rfl)
    (hbase : attributeBase (.Name x p1) "append" X.env (eval (.Name x p1) X.env) = eval (.Name x p1) X.env := by rfl)
    (hfew : ((backTo p3 (starEach [e] X.env)).all (fun x => !x.1) && (backToKw p3 (keywordEach [] X.env)).all (fun x => x.1.isSome) && decide ([e].length + ([] : List Keyword).length + (if ([] : List Keyword).isEmpty then 0 else 1) < 30)) = true := by rfl)
    (hline : (p2.endLine == p3.line) = true := by rfl) (hst : starEach [e] X.env = (false, eval e X.env) :: starEach [] X.env := by rfl) (hplain : (backTo p3 (starEach [] X.env)).any (·.1) = false := by rfl) (hK : X.K = F.K := by rfl) :
    PS X (.Expr (.Call (.Attribute (.Name x p1) "append" p2) [e] [] p3) pos) (upS F Cl W (dAppend i de)) :=
  sAppend hv h hs (fun r to t hr h1 h2 => pe_bm PySem.F.plainAttrs_list PySem.F.slot_list_append PySem.F.type_list_append hr h1 h2 hbase hfew hline hst hplain) hst hK
/-- a def that is never called -/
theorem has_false {P : Program} {w : World} {K : PySem.W.Frag} {mg : Str → Option Value} {base : Heap} {x qual : Str} {params : Arguments} {body : List Stmt} {scope : Scope} {kws : List (Str × V)} {f : Addr} {fd : FuncData} {ps : List Str} {k : Nat}
    (D : FunD K x qual params body scope [] kws f fd) (g : mg x = some (.ref f)) (b : Binds K fd ps []) : Has P w K mg base Cl x k (fun _ _ _ => False) :=
  ⟨f, fd, ps, g, D.kp, b, ⟨fun _ _ _ _ ⟨_, _, _, _, _, _, _, _, _, _, h, _⟩ => h.elim, fun _ _ _ _ _ _ _ _ _ _ _ _ _ ⟨_, _, _, _, _, _, _, _, _, _, h, _⟩ => h.elim⟩⟩
theorem po_of {K : Value → Shared → Prop} {E₁ : Value → Shared → Prop} (hx : X.xe = fun e s' => wpAny (model X.prog X.w) X.A (leaving X.env e) (fun _ s'' => K e s'') E₁ s') : PassesOwn (model X.prog X.w) X.A X.env X.xe := passes_of hx
end
end HD
/-! HD9: the bag, a draw, the law's own def. -/
namespace HD
open PySem PyProof.Rows L2
/-- a draw: any number below the one that is asked -/
def m_draw : DFn := fun ds _ Q => ∃ m : Int, ds = [.bag, .int m] ∧ 0 < m ∧ m < 2 ^ 4000 ∧ ∀ r : Int, 0 ≤ r → r < m → Q (.int r)
/-- _law_bag: a new bag -/
def spBag (K : PySem.W.Frag) : Sp := fun vs H Q _ => ∃ (a : Addr) (ns : List Int), vs = [.ref a] ∧ SqL K H a (ns.map V.int) ∧ ∀ (B : Bg) (H' : Hp), (∀ c o, H c = some o → H' c = some o) → H B.b = none → H B.l = none → BagAt B H' → Q (.ref B.b) H'
/-- what _law_draw is to do with the bag at B -/
theorem Is.bag_b {B : Bg} {O : Addr → Prop} {K : PySem.W.Frag} {H : Hp} {v : V} (h : Is B O K H v .bag) : v = .ref B.b ∧ BagAt B H := by
  cases h with
  | bag h o => exact ⟨rfl, h⟩
theorem ex_bag {B : Bg} {H : Hp} {xs ys : List V} (hb : H B.b = some (.lst xs)) (h : BagAt B (upd H B.b (.lst ys))) : Ex B H (upd H B.b (.lst ys)) := ⟨fun a o e => by
    by_cases z : a = B.b
    · subst z
      rw [hb] at e
      cases e
      exact .inr ⟨rfl, xs, rfl⟩
    · exact .inl (by rw [upd_ne z]; exact e), fun a o e => by
    by_cases z : a = B.b
    · subst z
      exact ⟨_, upd_same⟩
    · exact ⟨o, by rw [upd_ne z]; exact e⟩, fun _ => h⟩
theorem draw_end {w : World} {Cl : Str → Addr} {K : PySem.W.Frag} {vs : List V} {H : Hp} {Q : VK} {E : XK} (h : spF w Cl K m_draw vs H Q E) : ∃ (B : Bg) (m : Int), vs = [.ref B.b, .int m] ∧ 0 < m ∧ m < 2 ^ 4000 ∧ BagAt B H ∧ ∀ (r : Int) (H' : Hp), 0 ≤ r → r < m → Ex B H H' → Q (.int r) H' := by
  obtain ⟨B, O, ds, Xd, Qd, _, ob, ol, oa, r, ⟨m, rfl, h1, h2, h3⟩, kx, kq⟩ := h
  obtain ⟨v, w, rfl, iv, iw⟩ := two_of r
  obtain ⟨rfl, hb⟩ := iv.bag_b
  cases iw
  exact ⟨B, m, rfl, h1, h2, hb, fun r H' h4 h5 x => kq _ (h3 r h4 h5) _ H' x (.int _)⟩
end HD
/-! HD10: the head's hook with tables of plain values and further checks. -/
namespace HD
open PySem PyProof.Rows L2
/-- a table's entry against a key and a number -/
def entB (e : DictEntry) (q : Str × Int) : Bool := match e.key, e.val with
  | .str x _, .int i _ => decide (x = q.1) && decide (i = q.2)
  | _, _ => false
def entsB : List DictEntry → List (Str × Int) → Bool
  | [], [] => true
  | e :: r, q :: qs => entB e q && entsB r qs
  | _, _ => false
theorem entB_ok {e : DictEntry} {q : Str × Int} (h : entB e q = true) : (∃ t, e.key = .str q.1 t) ∧ ∃ t, e.val = .int q.2 t := by
  unfold entB at h
  split at h
  · rename_i x t i u h1 h2
    obtain ⟨a, b⟩ := He.ba h
    have ea := of_decide_eq_true a
    have eb := of_decide_eq_true b
    subst ea eb
    exact ⟨⟨t, h1⟩, ⟨u, h2⟩⟩
  · cases h
def dtab (tab : List (Str × Int)) : List (Str × D) := tab.map fun q => (q.1, D.int q.2)
theorem ents_find : ∀ {l : List DictEntry} {tab : List (Str × Int)} (s : Str), entsB l tab = true →
    (match (dtab tab).lookup s with
      | some d => ∃ (e : DictEntry) (i : Int) (t : Tok), l.find? (fun z => z.key.isStr s) = some e ∧ e.val = .int i t ∧ d = .int i
      | none => l.find? (fun z => z.key.isStr s) = none ∧ l.any (fun z => z.refKey) = false)
  | [], [], s, _ => ⟨rfl, rfl⟩
  | [], _ :: _, s, h => by cases h
  | _ :: _, [], s, h => by cases h
  | e :: r, q :: qs, s, h => by
    obtain ⟨h1, h2⟩ := He.ba (show (entB e q && entsB r qs) = true from h)
    obtain ⟨⟨t, k⟩, ⟨u, v⟩⟩ := entB_ok h1
    have ih := ents_find s h2
    have e1 : (dtab (q :: qs)).lookup s = (match s == q.1 with | true => some (D.int q.2) | false => (dtab qs).lookup s) := by
      show List.lookup s ((q.1, D.int q.2) :: dtab qs) = _
      rw [List.lookup_cons]
      cases s == q.1 <;> rfl
    have e2 : e.key.isStr s = (s == q.1) := by
      rw [k]
      show (q.1 == s) = _
      cases z : s == q.1 with
      | true =>
        have := eq_of_beq z
        subst this
        exact beq_self_eq_true _
      | false =>
        cases y : q.1 == s with
        | false => rfl
        | true =>
          have := eq_of_beq y
          subst this
          rw [beq_self_eq_true] at z
          cases z
    rw [e1]
    cases z : s == q.1 with
    | true =>
      refine ⟨e, q.2, u, ?_, v, rfl⟩
      rw [List.find?_cons, e2, z]
    | false =>
      have e3 : (e :: r).find? (fun z => z.key.isStr s) = r.find? fun z => z.key.isStr s := by rw [List.find?_cons, e2, z]
      have e4 : (e :: r).any (fun z => z.refKey) = r.any fun z => z.refKey := by
        rw [List.any_cons]
        have : e.refKey = false := by
          unfold DictEntry.refKey
          rw [k]
        rw [this]
        rfl
      rw [e3, e4]
      exact ih
def tabB (tab : List (Str × Int)) (a : Addr) (K : PySem.W.Frag) : Bool := match K.lookup a with
  | some ⟨_, _, .dict es _, _⟩ => entsB es.toList tab
  | _ => false
theorem tabB_at {X : Cx} {a : Addr} {tab : List (Str × Int)} (kd : ∃ es n, KDict X.K X.w a es n) (h : tabB tab a X.K = true) : TabAt X a (dtab tab) := by
  obtain ⟨es, n, k⟩ := kd
  have hl := k.1
  unfold tabB at h
  rw [hl] at h
  have h : entsB es.toList tab = true := h
  refine ⟨⟨es, n, k⟩, fun s d e => ?_, fun s e => ?_⟩
  · have q := ents_find s h
    rw [e] at q
    obtain ⟨z, i, t, h1, h2, rfl⟩ := q
    refine ⟨.int i t, .int i, ?_, ⟨t, rfl⟩, fun B O H => .int i⟩
    unfold PySem.W.nsIn
    rw [hl]
    show (match es.toList.find? (fun z => z.key.isStr s) with
      | some e => some (some e.val)
      | none => _) = _
    rw [h1, ← h2]
  · have q := ents_find s h
    rw [e] at q
    obtain ⟨h1, h2⟩ := q
    unfold PySem.W.nsIn
    rw [hl]
    show (match es.toList.find? (fun z => z.key.isStr s) with
      | some e => some (some e.val)
      | none => if es.toList.any (fun z => z.refKey) then none else some none) = _
    rw [h1, h2]
    rfl
abbrev AlX : Type := He.AlT × Bool
def xObs (n : Nat) (fa : List He.Fa) (fn : List He.DefD) (ts : List He.Tab) (ex : PySem.W.Frag → Bool) (g : Addr → Option Obj) : AlX := (He.obsT fa fn ts (He.frG g (He.asD g n)), ex (He.frG g (He.asD g n)))
def xHook (n : Nat) (fa : List He.Fa) (fn : List He.DefD) (ts : List He.Tab) (ex : PySem.W.Frag → Bool) : PySem.W.Hook where
  α := AlX
  obs := fun s => xObs n fa fn ts ex s.heap.get?
  val := fun w => (He.valT fn ts w, true)
  says := fun w h => ∃ K : PySem.W.Frag, K.In h ∧ (He.SaysT fa fn ts w K ∧ ex K = true)
  of := fun _ _ e => ⟨_, He.frG_in, congrArg Prod.fst e, congrArg Prod.snd e⟩
  keeps := fun _ _ _ ⟨K, hK, c⟩ k => ⟨K, PySem.W.Frag.In.keeps hK k, c⟩
end HD
/-! XS1: an own error whose __init__ says super().__init__(x) and keeps x. -/
namespace HD
open PySem PySem.W PySem.Calls PyProof.Rows
section
variable {prog : Program} {w : World} {A : Around} {R : Result → Shared → Prop} {h : Heap} {g : Array GenState} {d : Drawn} {t : Nat} {os : OsState} {K : Frag} {mg mb : Str → Option Value}
variable {nm q0 : Str} {C N : Addr} {bs bm : List Value} {sn : List Str} {sub : List Value} {ab : Bool} {col : Option Bool} {dd : Option Addr} {k0 k1 k2 k3 k5 : Option Value}
/-- ValueError.__init__ bound to the object, called -/
theorem call_mw {E : Value → Shared → Prop} {u e t0 : Addr} {rest : List Value} {Q : Value → Shared → Prop} (hC : h.get? C = some (excClassObj nm q0 C N bs bm true sn sub ab col dd k0 k1 k2 k3 k5 "ValueError.__new__")) (he : h.get? e = some (HandSPX.excO C t0)) (hu : h.get? u = some (kxs_mw "ValueError.__init__" e)) (hrest : rest.length ≤ sizeLine)
    (hq : ∀ h' t1, (∀ b o, b ≠ e → h.get? b = some o → h'.get? b = some o) → h'.get? e = some (HandSPX.excO C t1) → Q .none ⟨h', g, d, t, os⟩) : wpAny (model prog w) A (call (.ref u) rest) Q E ⟨h, g, d, t, os⟩ := by
  refine wpAny_call (codeAny_of_tree ?_)
  show wpAny _ A.in1 (callAny (.ref u) ⟨rest, []⟩) _ _ _
  simp only [callAny]
  refine wpAny_bind (wpAny_load hu ?_)
  simp only [kxs_mw, show (Value.type "method-wrapper" == Value.type "method" || Value.type "method-wrapper" == Value.type "builtin_function_or_method" || Value.type "method-wrapper" == Value.type "method-wrapper") = true by decide, if_true]
  refine KFB.if_so (by decide) ?_
  refine wpAny_bind (check_bound_init F.excBase_ValueError.toExcCallFacts hC he rfl ?_)
  refine wpAny_bind (wpAny_pure (wpAny_pure ?_))
  refine ⟨plainId_quiet F.excBase_ValueError.init.plain _, codeAny_builtin F.excBase_ValueError.initEntry ?_⟩
  refine exc_init_tree (cls := .ref C) (t0 := t0) (dv := none) (c2 := .none) (c3 := .none) (b4 := .bool false) he hrest ?_
  intro h' a1 a2 a3
  exact hq h' _ a1 a2
theorem callWith_mw {M : Model} {E : Value → Shared → Prop} {s : Shared} {i : String} {u x : Addr} {pos : Pos} {env : Env} {e : Expr} {rest : List Expr} {Q : Value → Shared → Prop}
    (h : wpAny M A (spliced (backTo pos (starEach (e :: rest) env))) (fun vs s₁ => s₁.heap.get? u = some (kxs_mw i x) ∧ wpAny M A (call (.ref u) vs) Q E s₁) E s)
    (he : starEach (e :: rest) env = (false, eval e env) :: starEach rest env := by rfl) (hplain : (backTo pos (starEach rest env)).any (·.1) = false := by rfl) :
    wpAny M A (callWith pos (.ref u) [] (backTo pos (starEach (e :: rest) env)) []) Q E s := by
  rw [he] at h ⊢
  refine kxs_callWith (i := i) (x := x) ?_ (evalArgs_plain h)
  show (false || (backTo pos (starEach rest env)).any (·.1)) = false
  rw [hplain]
  rfl
theorem sup_eval {o : Expr} {name x : Str} {apos pos p3 : Pos} {env : Env} (hl : (apos.endLine == pos.line) = true) : eval (.Call (.Attribute o name apos) [.Name x p3] [] pos) env = (do
      let ov ← attributeBase o name env (eval o env)
      standAt apos.atName
      let (f, first) ← holding [ov] (getMethod ov name (do return (← importBound o env).getD true))
      callWith pos f first (backTo pos (starEach [.Name x p3] env)) []) := by
  have hpos : methodCallPos true o env apos pos = pure pos := by
    unfold methodCallPos
    simp [hl]
  rw [arm_eval_Call]
  congr 1
  funext ov
  congr 1
  funext _
  unfold methodCall
  have hform : methodCallForm ([Expr.Name x p3].length + ([] : List Keyword).length) (backTo pos (starEach [.Name x p3] env)) (backToKw pos (keywordEach [] env)) = true := rfl
  rw [hform]
  show (holding [ov] (getMethod ov name (do return (← importBound o env).getD true)) >>= fun z => methodCallPos true o env apos pos >>= fun cp => callWith cp z.1 z.2 _ _) = _
  rw [hpos]
  rfl
/-- the body of such an __init__ -/
def supBody (fld : Str) (p : List Pos) : List Stmt :=
  [.Expr (.Call (.Attribute (.Call (.Name "super" (p.getD 0 default)) [] [] (p.getD 1 default)) "__init__" (p.getD 2 default)) [.Name fld (p.getD 3 default)] [] (p.getD 4 default)) (p.getD 5 default),
    .Assign [.Attribute (.Name "self" (p.getD 6 default)) fld (p.getD 7 default)] (.Name fld (p.getD 8 default)) (p.getD 9 default)]
abbrev supScope (fld : Str) : Scope := { kind := .function, names := [("self", .local), (fld, .local), ("__class__", .free), ("super", .globalImplicit)], isGenerator := false, isCoroutine := false, more := [] }
abbrev supArgs (fld : Str) (p p' : Pos) : Arguments := { posonlyargs := [], args := [{ arg := "self", annotation := none, pos := p }, { arg := fld, annotation := none, pos := p' }], vararg := none, kwonlyargs := [], kw_defaults := [], kwarg := none, defaults := [] }
/-- the class and its __init__, as the written part has them -/
structure SupC (prog : Program) (K : Frag) (C fI : Addr) (fld : Str) : Prop where
  cls : ∃ nm q N bs bm sn sub ab col dd k0 k1 k2 k3 k5, K.lookup C = some (excClassObj nm q C N bs bm true sn sub ab col dd k0 k1 k2 k3 k5 "ValueError.__new__") ∧ PySem.HandSPX.refsVE bm = true ∧ alongIn K "__init__" bm = some (some (.builtin "ValueError.__init__"))
  sa : findIn K (.ref C) "__setattr__" = some (some (.builtin "object.__setattr__"))
  no : findIn K (.ref C) fld = some none
  exB : subIn K (.ref C) (.type "BaseException") = some true
  exV : subIn K (.ref C) (.type "ValueError") = some true
  tyC : typeIn K (.ref C) = some (.type "type")
  kC : keepIn K (.ref C) = true
  op : nsIn K cStatics "thirdparty.any" = some none
  ini : findIn K (.ref C) "__init__" = some (some (.ref fI))
  tyI : typeIn K (.ref fI) = some (.type "function")
  fn : ∃ oc od osl kV doc pm an cda ct cc p p1 p2 qual, ((p.getD 2 default).endLine == (p.getD 4 default).line) = true ∧ K.lookup fI = some ⟨oc, od, .func (ksFn "__init__" qual (supArgs fld p1 p2) (supBody fld p) (supScope fld) .none kV doc pm an (.ref cda) ct cc), osl⟩ ∧ codeIn K (.ref cda) qual = true ∧
    (∃ ccl cdd vs ccs file tf, K.lookup cda = some ⟨ccl, cdd, .fields vs, ccs⟩ ∧ vs[2]? = some (.str file tf) ∧ ((prog.main.file : Str) == file) = true) ∧ ∃ cl cld csl, K.lookup cc = some ⟨cl, cld, .cell (some (.ref C)), csl⟩
theorem init_sup {fI e t0 : Addr} {fld : Str} {u : Value} (S : SupC prog K C fI fld) (X : K.In h) (G : h.Ns mainGlobals mg) (B : h.Ns builtinsNs mb) (hb : ∀ x : Str, x ≠ "__name__" → mb x = bootBuiltins x) (nl : h.NoLimit) (hroom : A.depth < recursionLimit) (hs : mg "super" = none)
    (htop : (prog.main.scope.names.lookup ("super" : Str)).isSome = false) (hfld : fld ∈ (["value", "at", "limit"] : List Str)) (he : h.get? e = some (HandSPX.excO C t0)) (hKe : K.lookup e = none)
    (hq : ∀ h' t' dx t1, (∀ b o, b ≠ e → h.get? b = some o → h'.get? b = some o) → h.objs.size ≤ dx → dx ≠ e → h'.get? e = some { cls := .ref C, dict := some dx, data := .fields #[.ref t1, .none, .none, .none, .bool false, .none] } → h'.Ns1 dx (fun y => if y = fld then some u else none) → R (.ok (.ret .none)) ⟨h', g, d, t', os⟩) :
    codeAny (model prog w) A (.call (.ref fI) ⟨[.ref e, u], []⟩) R ⟨h, g, d, t, os⟩ := by
  obtain ⟨nm, q, N, bs, bm, sn, sub, ab, col, dd, k0, k1, k2, k3, k5, hC, hbm, hal⟩ := S.cls
  obtain ⟨oc, od, osl, kV, doc, pm, an, cda, ct, cc, p, p1, p2, qual, hline, hf, hcd, ⟨ccl, cdd, vs, ccs, file, tf, hcode, hvs, hfile⟩, cl, cld, csl, hcell⟩ := S.fn
  have hls : (supScope fld).names.lookup ("self" : Str) = some .local := rfl
  have hlf : (supScope fld).names.lookup fld = some .local := by
    simp only [List.mem_cons, List.not_mem_nil, or_false] at hfld
    rcases hfld with rfl | rfl | rfl <;> rfl
  have hks : (supScope fld).names.lookup ("super" : Str) = some .globalImplicit := by
    simp only [List.mem_cons, List.not_mem_nil, or_false] at hfld
    rcases hfld with rfl | rfl | rfl <;> rfl
  have hkc : (supScope fld).names.lookup ("__class__" : Str) = some .free := by
    simp only [List.mem_cons, List.not_mem_nil, or_false] at hfld
    rcases hfld with rfl | rfl | rfl <;> rfl
  have hbind : BindsTo ⟨h, g, d, t, os⟩ (ksFn "__init__" qual (supArgs fld p1 p2) (supBody fld p) (supScope fld) .none kV doc pm an (.ref cda) ct cc) ⟨[.ref e, u], []⟩ [("self", .ref e), (fld, u)] := by
    simp only [List.mem_cons, List.not_mem_nil, or_false] at hfld
    rcases hfld with rfl | rfl | rfl <;> exact BindsTo.of_eq rfl
  refine ks_codeAny_call_defAt (fd := ksFn "__init__" qual (supArgs fld p1 p2) (supBody fld p) (supScope fld) .none kV doc pm an (.ref cda) ct cc) (body := supBody fld p) (binds := [("self", .ref e), (fld, u)]) hroom (X _ _ hf) rfl nl (codeRec_of X hcd) rfl hbind ?_ ?_ (fun h₁ hns hk₁ => ?_)
  · intro x hx
    simp only [List.mem_cons, List.not_mem_nil, or_false] at hx
    rcases hx with rfl | rfl | rfl | rfl <;> (intro z; cases z)
  · intro x hx
    simp only [List.mem_cons, List.not_mem_nil, or_false] at hx
    rcases hx with rfl | rfl
    · exact hls
    · exact hlf
  · have mself : (fun x => ([("self", Value.ref e), (fld, u)] : List (Str × Value)).reverse.lookup x) "self" = some (.ref e) := by
      simp only [List.mem_cons, List.not_mem_nil, or_false] at hfld
      rcases hfld with rfl | rfl | rfl <;> rfl
    have mfld : (fun x => ([("self", Value.ref e), (fld, u)] : List (Str × Value)).reverse.lookup x) fld = some u := by
      simp only [List.mem_cons, List.not_mem_nil, or_false] at hfld
      rcases hfld with rfl | rfl | rfl <;> rfl
    have hdb : (fld == ("__debug__" : Str)) = false := by
      simp only [List.mem_cons, List.not_mem_nil, or_false] at hfld
      rcases hfld with rfl | rfl | rfl <;> decide
    have X1 : K.In h₁ := X.keeps hk₁
    have he1 := hk₁ _ _ he
    have hC1 := X1 _ _ hC
    have hsz : h.objs.size ≠ e := (Nat.ne_of_lt (Heap.lt_size he)).symm
    have hclsIn : clsIn K C = some { name := nm, bases := bs, mro := .ref C :: bm, ns := N, qualname := q, hasDict := true, slotNames := sn, subclasses := sub, abstract := ab, collection := col, hasDel := false } := by
      unfold clsIn
      rw [hC] <;> rfl
    have hxC : e ≠ C := fun z => by
      rw [z, hC1] at he1
      cases he1
    refine ks_wpAt_execs_cons (ks_wpAt_Expr_any (ks_wpAt_MethodCall (he := sup_eval hline) ?_) rfl rfl)
    · refine ks_wpAt_super_base (env := callEnv (ksFn "__init__" qual (supArgs fld p1 p2) (supBody fld p) (supScope fld) .none kV doc pm an (.ref cda) ct cc) h.objs.size fI) hks hkc (by decide) rfl (X1 _ _ hf) rfl rfl rfl (X1 _ _ hcode) rfl hvs hfile htop ?_
      refine ks_loadName_global rfl hks (loadGlobal_builtin (G.keeps hk₁) hs (B.keeps hk₁) ((hb _ (by decide +kernel)).trans (show bootBuiltins "super" = some (.type "super") by kernel_rfl)) ⟨rfl, ?_⟩)
      refine wpAny_loadName_free rfl hkc rfl ⟨_, X1 _ _ hcell, rfl⟩ ?_
      refine wpAny_loadName_local rfl hls hns mself ?_
      refine ks_wpAny_isType_cls hC1 rfl ⟨rfl, ?_⟩
      refine ks_wpAny_call_super hC1 rfl he1 rfl (fun c z => by cases z) (looks_mroIn X1 (r := true) ?_) (fun h2 so2 hk2 => ?_)
      · unfold mroIn
        rw [hclsIn, Option.bind_some, if_neg (by simp)]
        simp
      have X2 : K.In h2 := X1.keeps hk2
      have he2 := hk2 _ _ he1
      have I2 : InstAt h2 e (HandSPX.excO C t0) C none := ⟨he2, rfl, rfl, trivial⟩
      refine kxs_getMethod kxs_ValueError so2 (looks_opaque X2 S.op) (l₀ := .ref C :: bm) ((looks_clsIn X2 hclsIn).andThen .now) (l := bm) (by simp) X2 hal (I2.type.andThen (looks_subIn X2 S.exV)) hxC (by decide) ?_
      have hk3 : ∀ b o, h2.get? b = some o → (h2.push (kxs_mw "ValueError.__init__" e)).get? b = some o := fun b o z => Heap.get?_push_of_some _ z
      have X3 : K.In (h2.push (kxs_mw "ValueError.__init__" e)) := X2.keeps hk3
      have hns3 := (hns.keeps hk2).keeps hk3
      have he3 := hk3 _ _ he2
      refine callWith_mw (i := "ValueError.__init__") (x := e) ?_ rfl rfl
      refine spliced_more (wpAny_Name (wpAny_loadName_local rfl hlf hns3 mfld (spliced_none ?_)) hdb) rfl
      refine ⟨Heap.get?_push_at rfl rfl, call_mw (X3 _ _ hC) he3 (Heap.get?_push_at rfl rfl) (by simp only [List.length_cons, List.length_nil]; decide) fun h4 t1 hk4 he4 => ?_⟩
      have X4 : K.In h4 := fun b o z => by
        refine hk4 b o (fun y => ?_) (X3 b o z)
        subst y
        rw [hKe] at z
        cases z
      have hns4 := hns3.at fun o z => hk4 _ _ hsz z
      have lsz : h.objs.size < h4.objs.size := by
        obtain ⟨_, _, _, z, _⟩ := hns4
        exact Heap.lt_size z
      refine ks_wpAt_execs_cons (ks_wpAt_Assign_Attr (wpAt_of_wpAny (wpAny_Name (wpAny_loadName_local rfl hlf hns4 mfld (wpAny_Name (wpAny_loadName_local rfl hls hns4 mself ?_))) hdb)) rfl)
      refine set_plain X4 (ox := HandSPX.excO C t1) (od := none) ⟨he4, rfl, rfl, trivial⟩ S.sa ?_
      refine PySem.HandSPX.exc_osa X4 he4 hclsIn (show PySem.HandSPX.refsVE (.ref C :: bm) = true from hbm) rfl S.no (fun h5 tk dx hk5 dn dne hx hn => ?_)
      refine wpAt_of_wpAny (wpAny_execs_nil ?_)
      exact hq h5 _ dx t1 (fun b o hb z => hk5 b o hb (hk4 b o hb (hk3 _ _ (hk2 _ _ (hk₁ _ _ z))))) (Nat.le_trans (Nat.le_of_lt lsz) dn) dne hx hn
end
end HD
/-! XS2: raise C(x), try with clauses. -/
namespace HD
open PySem PySem.Spec PyProof.Rows L2
/-- C(e): a new error that bears the value in its field -/
def tSup (C : Addr) (fld : Str) (ta : TA) : L2.St → Hp → XK → Prop := fun σ H Q => ta σ H fun vs H1 => ∃ y, vs = [y] ∧ ∀ dx, H1 dx = none → Q (.ref C) (some dx) (upd H1 dx (.xd [(fld, y)]))
theorem pmk_sup {X : Cx} {x : Str} {C fI : Addr} {fld : Str} {e : Expr} {ta : TA} {p pos : Pos} {k : Nat} (S : SupC X.prog X.K C fI fld) (hr : Room (k + 1) X.A) (hs : X.mg "super" = none) (htop : (X.prog.main.scope.names.lookup ("super" : Str)).isSome = false) (hfld : fld ∈ (["value", "at", "limit"] : List Str))
    (hg : Gl X x) (hm : X.mg x = some (.ref C)) (ha : PA X [e] ta) (hdb : (x == ("__debug__" : Str)) = false := by decide) (he : starEach [e] X.env = (false, eval e X.env) :: starEach [] X.env := by rfl) (hpl : (backTo pos (starEach [] X.env)).any (·.1) = false := by rfl) :
    PMk X (.Call (.Name x p) [e] [] pos) (tSup C fld ta) := by
  intro pins s σ H Q I h
  obtain ⟨nm, q, N, bs, bm, sn, sub, ab, col, dd, k0, k1, k2, k3, k5, hC, hbm, hal⟩ := S.cls
  refine wpAny_Call_Name_kw (ld_glob I hg hm ?_ hdb)
  refine PySem.W.callWith_K (h₀ := X.base) I.ok.mod.kin S.kC (thn (ha.run pos pins s σ H _ I h) fun us s1 ⟨vs, H1, I1, r1, y, ev, q1⟩ => ⟨I1.kIn, ?_⟩) he hpl
  subst ev
  cases r1 with
  | @cons _ u0 _ ur ry r2 =>
  cases r2
  show wpAny _ _ (call (.ref C) [u0]) _ _ _
  obtain ⟨hp, g, dr, tk, os⟩ := s1
  have kk : ∀ b o, hp.get? b = some o → ((hp.push (PySem.W.kdv_tup [u0])).push (PySem.HandSPX.excO C hp.objs.size)).get? b = some o := fun b o e => Heap.get?_push_of_some _ (Heap.get?_push_of_some _ e)
  have hget : ((hp.push (PySem.W.kdv_tup [u0])).push (PySem.HandSPX.excO C hp.objs.size)).get? (hp.objs.size + 1) = some (PySem.HandSPX.excO C hp.objs.size) := by heap_get
  have hnone : hp.get? (hp.objs.size + 1) = none := by
    cases z : hp.get? (hp.objs.size + 1) with
    | none => rfl
    | some o => exact absurd (Heap.lt_size z) (Nat.not_lt.mpr (Nat.le_succ _))
  have hKe : X.K.lookup (hp.objs.size + 1) = none := by
    cases z : X.K.lookup (hp.objs.size + 1) with
    | none => rfl
    | some o =>
      have := I1.kIn _ _ z
      rw [show (⟨hp, g, dr, tk, os⟩ : Shared).heap = hp from rfl, hnone] at this
      cases this
  obtain ⟨mb, b1, b2⟩ := I1.mod.blt
  refine wpAny_call (PySem.HandSPX.call_own F.excBase_ValueError (fun Y => PySem.HandSPX.refsVE_contains Y bm hbm) (I1.kIn _ _ hC) (PySem.W.looks_findIn I1.kIn S.ini) (fun self => PySem.W.bind_fn I1.kIn self S.tyI) (by simp only [List.length_cons, List.length_nil]; decide)
    (init_sup (u := u0) S (I1.kIn.keeps kk) ((I1.mod.glob.keeps I1.bk).keeps kk) ((b1.keeps I1.bk).keeps kk) b2 (I1.nolimit.keeps kk) (hr.make C [u0] []).depth hs htop hfld hget hKe fun h' t' dx t1 hk hdx hdn hx hn => ?_))
  have size2 : hp.objs.size ≤ dx := by
    have : ((hp.push (PySem.W.kdv_tup [u0])).push (PySem.HandSPX.excO C hp.objs.size)).objs.size = hp.objs.size + 2 := by
      rw [Heap.size_push, Heap.size_push]
    omega
  have ne : ∀ {b : Addr} {o : Obj}, hp.get? b = some o → b ≠ hp.objs.size + 1 := fun {b o} z => Nat.ne_of_lt (Nat.lt_succ_of_lt (Heap.lt_size z))
  obtain ⟨G, g1, g2⟩ := restrict h' fun b => decide (b ≠ hp.objs.size + 1)
  have gk : ∀ b, b ≠ hp.objs.size + 1 → G.get? b = h'.get? b := fun b hb => g1 b (decide_eq_true hb)
  have ge : G.get? (hp.objs.size + 1) = none := g2 _ (by simp)
  have hn1 : H1 dx = none := I1.hok.fresh size2
  have J : Inv X pins σ (upd H1 dx (.xd [(fld, y)])) ⟨G, g, dr, t', os⟩ := I1.laid (t' := t') (h' := G) (a := dx) (o := .xd [(fld, y)]) (fun b o z => by rw [gk b (ne z)]; exact hk b o (ne z) (kk b o z)) size2
    ⟨_, hn.at fun o z => (gk dx hdn).trans z, fun f => by
      show RelO (List.lookup f [(fld, y)]) _
      rw [L2.lookup_put]
      by_cases hf : f = fld
      · rw [if_pos hf, if_pos hf]
        exact ry
      · rw [if_neg hf, if_neg hf]
        exact True.intro⟩
  exact ⟨rfl, _, _, _, ⟨G, g, dr, t', os⟩, _, .ref C, some dx, rfl, J, fun b o z => by
    by_cases hb : b = hp.objs.size + 1
    · rw [hb, ge] at z
      cases z
    · rw [← gk b hb]
      exact z, ge, hx, ⟨rfl, rfl⟩, rfl, rfl, by rw [upd_ne (Ne.symm hdn)]; exact I1.hok.fresh (Nat.le_succ _), rfl, I1.bare, raises_own S.exB S.tyC, q1 dx hn1⟩
end HD
/-! XS3: try with several clauses, each with or without a name. -/
namespace HD
open PySem PySem.Spec PyProof.Rows L2
abbrev ClT := Value × Option Nat × (Addr → Value → Option Addr → TS)
def endsAt (D : Ends) : Option Nat → Ends
  | none => D
  | some i => { nx := fun σ H => D.nx (σ.set i none) H, rt := D.rt, bk := fun σ H => D.bk (σ.set i none) H, ct := fun σ H => D.ct (σ.set i none) H }
def putAt (σ : L2.St) (a : Addr) : Option Nat → L2.St
  | none => σ
  | some i => σ.set i (some (.ref a))
/-- what the clauses ask, the first that fits -/
def wNam (K : PySem.W.Frag) (Wo : WX) (D : Ends) : List ClT → WX
  | [] => Wo
  | (c, o, ts) :: r => fun cls d σ H => ∃ b, PySem.W.exmOne K cls c = some b ∧ (b = true → ∀ a, H a = none → ts a cls d (endsAt D o) (putAt σ a o) H) ∧ (b = false → wNam K Wo D r cls d σ H)
inductive Clauses (X : Cx) : List ExceptHandler → List ClT → Prop
  | nil : Clauses X [] []
  | cons {x : Str} {c : Value} {o : Option Nat} {on : Option Str} {ts : Addr → Value → Option Addr → TS} {b0 : Stmt} {su : List Stmt} {np p2 : Pos} {hs : List ExceptHandler} {l : List ClT} (hc : Names X x c) (ho : (o = none ∧ on = none) ∨ ∃ i n, o = some i ∧ on = some n ∧ X.N[i]? = some n ∧ X.env.kindOf n = some .local)
      (hsu : ∀ (a : Addr) (oe : Obj) (cls : Value) (d : Option Addr) (pn : List (Addr × Obj)), Zc cls d oe → (∃ vs, oe.data = .fields vs) → PSs (X.suite a ((a, oe) :: pn)) (b0 :: su) (ts a cls d)) (r : Clauses X hs l) :
      Clauses X (.ExceptHandler (some (.Name x np)) on (b0 :: su) p2 :: hs) ((c, o, ts) :: l)
section
variable {X : Cx} {body : List Stmt} {h0 : ExceptHandler} {hs : List ExceptHandler} {l : List ClT} {pos : Pos} {tb : WX → TS} {Wo : WX}
end
end HD
/-! XS4: raise and try on data. -/
namespace HD
open PySem PySem.Spec PyProof.Rows L2
section
variable {X : Cx} {F : Fx} {Cl : Str → Addr} {W : WX}
def dRaise (c : Str) (de : DE) : DS := fun De ρ => de ρ (De.ex ρ) fun d => De.ex ρ (c, d)
theorem sRaise {e : Expr} {c : Str} {de : DE} {pos : Pos} (hc : X.calm = true) (tk : Takes X W) (hp : PMk X e (tSup (Cl c) (fldOf c) (upA F Cl W (dCons de dNil)))) : PS X (.Raise (some e) none pos) (upS F Cl W (dRaise c de)) :=
  ps_imp (ps_raise hc tk hp) fun D σ H ⟨ρ, De, env, h, k1, k2, k3, k4, k5⟩ => ⟨ρ, De.ex ρ, fun ds => ∃ d, ds = [d] ∧ De.ex ρ (c, d), env, by
    show de ρ (De.ex ρ) fun x => ∃ d, [x] = [d] ∧ De.ex ρ (c, d)
    have e : (fun x => ∃ d, [x] = [d] ∧ De.ex ρ (c, d)) = fun x => De.ex ρ (c, x) := funext fun x => propext ⟨fun ⟨d, q, z⟩ => by cases q; exact z, fun z => ⟨x, rfl, z⟩⟩
    rw [e]
    exact h, xo_of env k5, fun ds ⟨d, e, hd⟩ vs H1 x1 r => by
      subst e
      obtain ⟨v, rfl, iv⟩ := one_of r
      refine ⟨v, rfl, fun dx hn => k5 ρ (c, d) hd σ _ dx v (env.ex' (x1.trans (Ex.new hn))) upd_same (iv.ex (Ex.new hn) env.osb)⟩⟩
/-! ### e.f in a suite -/
def dXf (i : Nat) (a : Addr) (d : D) : DE := fun ρ _ Q => ρ[i]? = some (some (.val (.raw a))) ∧ Q d
/-! ### the clauses -/
abbrev ClD := Str × Option Nat × (Str → Addr → D → DS)
def endsD (De : DEnds) : Option Nat → DEnds
  | none => { De with ex := fun _ _ => False }
  | some i => { nx := fun ρ => De.nx (ρ.set i none), rt := De.rt, bk := fun ρ => De.bk (ρ.set i none), ct := fun ρ => De.ct (ρ.set i none), ex := fun _ _ => False }
def putD (ρ : Rho) (a : Addr) : Option Nat → Rho
  | none => ρ
  | some i => ρ.set i (some (.val (.raw a)))
def dHds (ks : List Str) (fits : Str → Str → Bool) : List ClD → DEnds → Rho → Err → Prop
  | [], De, ρ, e => De.ex ρ e
  | (c, o, ms) :: r, De, ρ, e => e.1 ∈ ks ∧ if fits e.1 c = true then ∀ a, ms e.1 a e.2 (endsD De o) (putD ρ a o) else dHds ks fits r De ρ e
def dTry (ks : List Str) (fits : Str → Str → Bool) (db : DS) (cl : List ClD) : DS := fun De ρ => db { De with ex := dHds ks fits cl De } ρ
inductive ClausesD (X : Cx) (F : Fx) (Cl : Str → Addr) (ks : List Str) (fits : Str → Str → Bool) : List ExceptHandler → List ClD → Prop
  | nil : ClausesD X F Cl ks fits [] []
  | cons {x c : Str} {o : Option Nat} {on : Option Str} {ms : Str → Addr → D → DS} {b0 : Stmt} {su : List Stmt} {np p2 : Pos} {hs : List ExceptHandler} {l : List ClD} (hc : Names X x (.ref (Cl c))) (hfit : ∀ c' ∈ ks, PySem.W.exmOne X.K (.ref (Cl c')) (.ref (Cl c)) = some (fits c' c))
      (ho : (o = none ∧ on = none) ∨ ∃ i n, o = some i ∧ on = some n ∧ X.N[i]? = some n ∧ X.env.kindOf n = some .local)
      (hsu : ∀ (a : Addr) (oe : Obj) (c' : Str) (dd : Addr) (dv : D) (pn : List (Addr × Obj)), c' ∈ ks → fits c' c = true → Zc (.ref (Cl c')) (some dd) oe → (∃ vs, oe.data = .fields vs) → PSs (X.suite a ((a, oe) :: pn)) (b0 :: su) (upS (F.gh (.ref dd, .err (fldOf c') dv)) Cl WF (ms c' a dv))) (r : ClausesD X F Cl ks fits hs l) :
      ClausesD X F Cl ks fits (.ExceptHandler (some (.Name x np)) on (b0 :: su) p2 :: hs) ((c, o, ms) :: l)
def upX (F : Fx) (Cl : Str → Addr) (ks : List Str) (fits : Str → Str → Bool) (c : Str) (ms : Str → Addr → D → DS) (a : Addr) (cls : Value) (d : Option Addr) : TS := fun En σ H => ∃ (c' : Str) (dv : D) (dd : Addr), c' ∈ ks ∧ fits c' c = true ∧ cls = .ref (Cl c') ∧ d = some dd ∧ upS (F.gh (.ref dd, .err (fldOf c') dv)) Cl WF (ms c' a dv) En σ H
def clT (F : Fx) (Cl : Str → Addr) (ks : List Str) (fits : Str → Str → Bool) (q : ClD) : ClT := (.ref (Cl q.1), q.2.1, upX F Cl ks fits q.1 q.2.2)
end
end HD
/-! XS5: error classes of the top, told by the head. -/
namespace HD
open PySem PySem.W PySem.Calls PyProof.Rows
def clsB (K : Frag) (C : Addr) : Bool := match K.lookup C with
  | some ⟨.type "type", _, .cls cd, sl⟩ => (match cd.mro, sl.toList with
    | .ref C1 :: bm, [_, _, _, _, some (.builtin n), _] => C1 == C && (n == "ValueError.__new__" && (!cd.hasDel && (cd.hasDict && (HandSPX.refsVE bm && decide (alongIn K "__init__" bm = some (some (.builtin "ValueError.__init__")))))))
    | _, _ => false)
  | _ => false
theorem clsB_ok {K : Frag} {C : Addr} (h : clsB K C = true) : ∃ nm q N bs bm sn sub ab col dd k0 k1 k2 k3 k5, K.lookup C = some (excClassObj nm q C N bs bm true sn sub ab col dd k0 k1 k2 k3 k5 "ValueError.__new__") ∧ HandSPX.refsVE bm = true ∧ alongIn K "__init__" bm = some (some (.builtin "ValueError.__init__")) := by
  unfold clsB at h
  split at h
  · rename_i dd cd sl ho
    split at h
    · rename_i C1 bm k0 k1 k2 k3 n k5 hm hs
      obtain ⟨a1, h⟩ := He.ba h
      obtain ⟨a2, h⟩ := He.ba h
      obtain ⟨a3, h⟩ := He.ba h
      obtain ⟨a4, h⟩ := He.ba h
      obtain ⟨a5, a6⟩ := He.ba h
      obtain ⟨nm, bs, mro, ns, qn, hd, sn, sub, ab, col, del⟩ := cd
      have a1 := eq_of_beq a1
      have a2 := eq_of_beq a2
      dsimp only at hm a3 a4
      have a3 : del = false := by cases del <;> simp_all
      subst a1 a2 hm a3 a4
      have hsl : sl = #[k0, k1, k2, k3, some (.builtin "ValueError.__new__"), k5] := by
        obtain ⟨l⟩ := sl
        simp only at hs
        rw [hs]
      subst hsl
      exact ⟨nm, qn, ns, bs, bm, sn, sub, ab, col, dd, k0, k1, k2, k3, k5, ho, a5, of_decide_eq_true a6⟩
    · cases h
  · cases h
abbrev FnS : Type := Option (Str × Str × Arguments × FuncBody × Scope × Addr × List Str × Addr)
def fnS (K : Frag) (f : Addr) : FnS := match K.lookup f with
  | some ⟨_, _, .func fd, _⟩ => some (fd.name, fd.qualname, fd.params, fd.body, fd.scope, fd.globals, fd.closure.map (·.1), fd.builtins)
  | _ => none
def supV (fld qual : Str) (p : List Pos) (p1 p2 : Pos) : FnS := some (("__init__" : Str), qual, supArgs fld p1 p2, FuncBody.stmts (supBody fld p), supScope fld, mainGlobals, [("__class__" : Str)], builtinsNs)
def cellB (prog : Program) (K : Frag) (C f : Addr) : Bool := match K.lookup f with
  | some ⟨_, _, .func fd, _⟩ => (match fd.closure, fd.code, fd.defaults with
    | [(_, cc)], .ref cda, .none => codeIn K (.ref cda) fd.qualname && ((match K.lookup cc with
        | some ⟨_, _, .cell (some (.ref D1)), _⟩ => D1 == C
        | _ => false) && (match K.lookup cda with
        | some ⟨_, _, .fields vs, _⟩ => (match (vs[2]? : Option Value) with
          | some (Value.str file _) => (prog.main.file : Str) == file
          | _ => false)
        | _ => false))
    | _, _, _ => false)
  | _ => false
theorem sup_fn {prog : Program} {K : Frag} {C f : Addr} {fld qual : Str} {p : List Pos} {p1 p2 : Pos} (hl : ((p.getD 2 default).endLine == (p.getD 4 default).line) = true) (e : fnS K f = supV fld qual p p1 p2) (h : cellB prog K C f = true) :
    ∃ oc od osl kV doc pm an cda ct cc p p1 p2 qual, ((p.getD 2 default).endLine == (p.getD 4 default).line) = true ∧ K.lookup f = some ⟨oc, od, .func (ksFn "__init__" qual (supArgs fld p1 p2) (supBody fld p) (supScope fld) .none kV doc pm an (.ref cda) ct cc), osl⟩ ∧ codeIn K (.ref cda) qual = true ∧
      (∃ ccl cdd vs ccs file tf, K.lookup cda = some ⟨ccl, cdd, .fields vs, ccs⟩ ∧ vs[2]? = some (.str file tf) ∧ ((prog.main.file : Str) == file) = true) ∧ ∃ cl cld csl, K.lookup cc = some ⟨cl, cld, .cell (some (.ref C)), csl⟩ := by
  unfold fnS at e
  unfold cellB at h
  cases q : K.lookup f with
  | none => rw [q] at e; cases e
  | some o =>
    obtain ⟨oc, od, dt, osl⟩ := o
    rw [q] at e h
    cases dt with
    | func fd =>
      obtain ⟨n1, n2, n3, n4, n5, n6, n7, n8, n9, n10, n11, n12, n13, n14, n15⟩ := fd
      have e2 : (some (n1, n2, n3, n4, n5, n6, n7.map (·.1), n15) : FnS) = supV fld qual p p1 p2 := e
      simp only [supV, Option.some.injEq, Prod.mk.injEq] at e2
      obtain ⟨h1, h2, h3, h4, h5, h6, h7, h8⟩ := e2
      dsimp only at h
      split at h
      · rename_i _ _ _ x cc cda
        have hx : x = "__class__" := by simpa using h7
        subst h1 h2 h3 h4 h5 h6 h8 hx
        obtain ⟨c1, h⟩ := He.ba h
        obtain ⟨c2, c3⟩ := He.ba h
        split at c2
        · rename_i cl cld D1 csl z1
          have := eq_of_beq c2
          subst this
          split at c3
          · rename_i ccl cdd vs ccs z2
            split at c3
            · rename_i file tf z3
              exact ⟨oc, od, osl, n9, n10, n11, n12, cda, n14, cc, p, p1, p2, n2, hl, rfl, c1, ⟨ccl, cdd, vs, ccs, file, tf, z2, z3, c3⟩, cl, cld, csl, z1⟩
            · cases c3
          · cases c3
        · cases c2
      · cases h
    | _ => cases e
def supB (prog : Program) (K : Frag) (C f : Addr) (fld : Str) : Bool :=
  clsB K C && (He.eqO (findIn K (.ref C) "__setattr__") (some (some (.builtin "object.__setattr__"))) && (He.eqO (findIn K (.ref C) fld) (some none) && (decide (subIn K (.ref C) (.type "BaseException") = some true) && (decide (subIn K (.ref C) (.type "ValueError") = some true) &&
    (decide (typeIn K (.ref C) = some (.type "type")) && (keepIn K (.ref C) && (He.eqO (nsIn K cStatics "thirdparty.any") (some none) && (He.eqO (findIn K (.ref C) "__init__") (some (some (.ref f))) && (decide (typeIn K (.ref f) = some (.type "function")) && (cellB prog K C f && L2.xfB K C))))))))))
theorem supB_ok {prog : Program} {K : Frag} {C f : Addr} {fld qual : Str} {p : List Pos} {p1 p2 : Pos} (h : supB prog K C f fld = true) (hl : ((p.getD 2 default).endLine == (p.getD 4 default).line) = true) (e : fnS K f = supV fld qual p p1 p2) : SupC prog K C f fld ∧ L2.XfC K C := by
  obtain ⟨a1, h⟩ := He.ba h
  obtain ⟨a2, h⟩ := He.ba h
  obtain ⟨a3, h⟩ := He.ba h
  obtain ⟨a4, h⟩ := He.ba h
  obtain ⟨a5, h⟩ := He.ba h
  obtain ⟨a6, h⟩ := He.ba h
  obtain ⟨a7, h⟩ := He.ba h
  obtain ⟨a8, h⟩ := He.ba h
  obtain ⟨a9, h⟩ := He.ba h
  obtain ⟨a10, h⟩ := He.ba h
  obtain ⟨a11, a12⟩ := He.ba h
  exact ⟨⟨clsB_ok a1, He.eqO_ok a2, He.eqO_ok a3, of_decide_eq_true a4, of_decide_eq_true a5, of_decide_eq_true a6, a7, He.eqO_ok a8, He.eqO_ok a9, of_decide_eq_true a10, sup_fn hl e a11⟩, L2.xfB_ok a12⟩
end HD
/-! XS6: the head's hook with error classes. -/
namespace HD
open PySem PyProof.Rows L2
abbrev AlY : Type := (He.AlT × List FnS) × Bool
def fragY (n : Nat) (g : Addr → Option Obj) : PySem.W.Frag := He.frG g (cStatics :: He.asD g n)
def iniOf (K : PySem.W.Frag) (c : Str) : Addr := He.ma K (He.ga K c) "__init__"
def yObs (n : Nat) (fa : List He.Fa) (fn : List He.DefD) (ts : List He.Tab) (es : List Str) (ex : PySem.W.Frag → Bool) (g : Addr → Option Obj) : AlY := ((He.obsT fa fn ts (fragY n g), es.map fun c => fnS (fragY n g) (iniOf (fragY n g) c)), ex (fragY n g))
def SaysY (fa : List He.Fa) (fn : List He.DefD) (ts : List He.Tab) (es : List Str) (ev : List FnS) (ex : PySem.W.Frag → Bool) (w : World) (K : PySem.W.Frag) : Prop := He.SaysT fa fn ts w K ∧ (es.map fun c => fnS K (iniOf K c)) = ev ∧ ex K = true
def yHook (n : Nat) (fa : List He.Fa) (fn : List He.DefD) (ts : List He.Tab) (es : List Str) (ev : List FnS) (ex : PySem.W.Frag → Bool) : PySem.W.Hook where
  α := AlY
  obs := fun s => yObs n fa fn ts es ex s.heap.get?
  val := fun w => ((He.valT fn ts w, ev), true)
  says := fun w h => ∃ K : PySem.W.Frag, K.In h ∧ SaysY fa fn ts es ev ex w K
  of := fun _ _ e => ⟨_, He.frG_in, congrArg (fun z : AlY => z.1.1) e, congrArg (fun z : AlY => z.1.2) e, congrArg Prod.snd e⟩
  keeps := fun _ _ _ ⟨K, hK, c⟩ k => ⟨K, PySem.W.Frag.In.keeps hK k, c⟩
theorem yObs_eq {n : Nat} {fa : List He.Fa} {fn : List He.DefD} {ts : List He.Tab} {es : List Str} {ev : List FnS} {ex : PySem.W.Frag → Bool} {g : Addr → Option Obj} {s : Shared} (h : ∀ a, g a = s.heap.get? a) : yObs n fa fn ts es ex g = (yHook n fa fn ts es ev ex).obs s := by
  have : g = s.heap.get? := funext h
  subst this
  rfl
theorem SaysY.ini {fa : List He.Fa} {fn : List He.DefD} {ts : List He.Tab} {es : List Str} {ev : List FnS} {ex : PySem.W.Frag → Bool} {w : World} {K : PySem.W.Frag} (c : SaysY fa fn ts es ev ex w K) (i : Nat) {x : Str} {v : FnS} (h1 : es[i]? = some x := by rfl) (h2 : ev[i]? = some v := by rfl) : fnS K (iniOf K x) = v := by
  have e : (es.map fun c => fnS K (iniOf K c))[i]? = ev[i]? := by rw [c.2.1]
  rw [List.getElem?_map, h1, h2] at e
  exact Option.some.inj e
def fitE (c' c : Str) : Bool := decide (c' = c) || decide (c = "TalkError")
end HD
/-! HE1: dicts made and changed, over data. -/
namespace HD
open PySem PySem.Spec PyProof.Rows L2
/-- d[k] = v on data -/
def setD (kvs : List (D × D)) (k v : D) : List (D × D) := if (lookD kvs k).isSome then kvs.map (fun p => if eqD p.1 k then (p.1, v) else p) else kvs ++ [(k, v)]
section
variable {B : Bg} {O : Addr → Prop} {K : PySem.W.Frag} {H : Hp} {w : World}
theorem vals_set : ∀ {xs : List V} {us : List Value} {j : Nat} {x : V} {u : Value}, Vals xs us → RelV x u → Vals (xs.set j x) (us.set j u)
  | _, _, j, _, _, .nil, _ => by simp; exact .nil
  | _, _, 0, _, _, .cons _ t, r => .cons r t
  | _, _, j + 1, _, _, .cons q t, r => .cons q (vals_set t r)
theorem IsL.set : ∀ {vs : List V} {ds : List D} {j : Nat} {v : V} {d : D}, IsL B O K H vs ds → Is B O K H v d → IsL B O K H (vs.set j v) (ds.set j d)
  | _, _, j, _, _, .nil, _ => by simp; exact .nil
  | _, _, 0, _, _, .cons _ t, r => .cons r t
  | _, _, j + 1, _, _, .cons q t, r => .cons q (IsL.set t r)
theorem map_modify {α β : Type} (f : α → β) (g : α → α) (h : β → β) (e : ∀ x, f (g x) = h (f x)) (xs : Array α) (j : Nat) : (xs.modify j g).toList.map f = (xs.toList.map f).modify j h := by
  apply List.ext_getElem?
  intro i
  rw [List.getElem?_map, Array.getElem?_toList, Array.getElem?_modify, List.getElem?_modify, List.getElem?_map, Array.getElem?_toList]
  split
  · cases xs[i]? <;> simp [e]
  · cases xs[i]? <;> simp
theorem modify_const {α : Type} (v : α) : ∀ (xs : List α) (j : Nat), xs.modify j (fun _ => v) = xs.set j v
  | [], j => by cases j <;> simp [List.modify]
  | x :: xs, 0 => by simp [List.modify]
  | x :: xs, j + 1 => by simp [List.modify_succ_cons, modify_const v xs j]
theorem zip_set : ∀ {ks vs : List D} {j : Nat} {k v : D}, (∀ d ∈ ks, keyOk d) → keyOk k → ks.length = vs.length → (ks.map toP).Nodup → ks[j]? = some k → (ks.zip vs).map (fun p => if eqD p.1 k then (p.1, v) else p) = ks.zip (vs.set j v)
  | [], _, j, k, v, _, _, _, _, h => by simp at h
  | x :: xs, [], j, k, v, _, _, hl, _, _ => by simp at hl
  | x :: xs, y :: ys, 0, k, v, ok, hk, hl, nd, h => by
    simp only [List.getElem?_cons_zero, Option.some.injEq] at h
    subst h
    have ndx := List.nodup_cons.mp (by simpa only [List.map_cons] using nd)
    simp only [List.zip_cons_cons, List.map_cons, List.set_cons_zero]
    rw [if_pos ((eq_key hk hk).mpr rfl)]
    congr 1
    have : ∀ p ∈ xs.zip ys, (fun p : D × D => if eqD p.1 x then (p.1, v) else p) p = p := fun p hp => by
      have hm := (List.of_mem_zip hp).1
      refine if_neg fun z => ndx.1 ?_
      have e := (eq_key (ok p.1 (List.mem_cons_of_mem _ hm)) hk).mp z
      rw [← e]
      exact List.mem_map.mpr ⟨_, hm, rfl⟩
    exact (List.map_congr_left this).trans (List.map_id _)
  | x :: xs, y :: ys, j + 1, k, v, ok, hk, hl, nd, h => by
    simp only [List.getElem?_cons_succ] at h
    have ndx := List.nodup_cons.mp (by simpa only [List.map_cons] using nd)
    simp only [List.zip_cons_cons, List.map_cons, List.set_cons_succ]
    have ne : eqD x k = false := by
      cases q : eqD x k with
      | false => rfl
      | true =>
        have e := (eq_key (ok x List.mem_cons_self) hk).mp q
        exact absurd (List.mem_map.mpr ⟨k, List.mem_of_getElem? h, rfl⟩) (e ▸ ndx.1)
    rw [if_neg (by rw [ne]; simp), zip_set (fun d hd => ok d (List.mem_cons_of_mem _ hd)) hk (by simpa using hl) ndx.2 h]
theorem put_dct {a : Addr} {o o' : Obj} {es : Array DictEntry} {ep ep' : Nat} {kv vv : List V} {ks vs : List D} {k d : D} {yk yv : V} {uk uv : Value} {h' : Heap} (q : DctOk w a o es ep kv vv ks) (r1 : IsL B O K H kv ks) (r2 : IsL B O K H vv vs) (hk : keyOk k) (ik : Is B O K H yk k) (iv : Is B O K H yv d) (rk : RelV yk uk) (rv : RelV yv uv)
    (g : GD.DictG w h' a o' (GD.putE w es (ks.map toP) (toP k) uk uv) ep' (GD.putKs (ks.map toP) (toP k))) : ∃ kv' vv' ks' vs', DctOk w a o' (GD.putE w es (ks.map toP) (toP k) uk uv) ep' kv' vv' ks' ∧ IsL B O K H kv' ks' ∧ IsL B O K H vv' vs' ∧ ks'.zip vs' = setD (ks.zip vs) k d := by
  have hlen := dct_len q r1 r2
  rcases look_key hk q.ok hlen q.nd with ⟨h1, h2⟩ | ⟨j, d', h1, h2, h3⟩
  · have e1 : GD.putE w es (ks.map toP) (toP k) uk uv = es.push ⟨GD.hsh w (toP k), uk, uv⟩ := by
      unfold GD.putE
      rw [GD.find_none h1]
    rw [e1] at g ⊢
    refine ⟨kv ++ [yk], vv ++ [yv], ks ++ [k], vs ++ [d], ⟨g.ex, g.dt, g.nm, ?_, ?_, ?_, ?_, ?_, g.sz⟩, r1.append (.cons ik .nil), r2.append (.cons iv .nil), ?_⟩
    · rw [Array.toList_push, List.map_append]
      exact q.k.append (.cons rk .nil)
    · rw [Array.toList_push, List.map_append]
      exact q.v.append (.cons rv .nil)
    · rw [Array.toList_push, List.map_append, List.map_append, q.hs]
      rfl
    · intro z hz
      rcases List.mem_append.mp hz with hz | hz
      · exact q.ok z hz
      · simp at hz; rw [hz]; exact hk
    · have := g.ky.nd
      unfold GD.putKs at this
      rw [if_neg h1] at this
      rw [List.map_append]
      exact this
    · unfold setD
      rw [h2, if_neg (by simp), List.zip_append hlen]
      rfl
  · have hj : (ks.map toP)[j]? = some (toP k) := by rw [List.getElem?_map, h1]; rfl
    have e1 : GD.putE w es (ks.map toP) (toP k) uk uv = es.modify j fun e => { e with val := uv } := by
      unfold GD.putE
      rw [GD.find_of q.nd hj]
    rw [e1] at g ⊢
    refine ⟨kv, vv.set j yv, ks, vs.set j d, ⟨g.ex, g.dt, g.nm, ?_, ?_, ?_, q.ok, q.nd, g.sz⟩, r1, r2.set iv, ?_⟩
    · rw [map_modify (·.key) (fun e : DictEntry => { e with val := uv }) (fun x => x) (fun _ => rfl)]
      have : (es.toList.map (·.key)).modify j (fun x => x) = es.toList.map (·.key) := List.modify_id _ _
      rw [this]
      exact q.k
    · rw [map_modify (·.val) (fun e : DictEntry => { e with val := uv }) (fun _ => uv) (fun _ => rfl), modify_const]
      exact vals_set q.v rv
    · rw [map_modify (·.hash) (fun e : DictEntry => { e with val := uv }) (fun x => x) (fun _ => rfl)]
      have : (es.toList.map (·.hash)).modify j (fun x => x) = es.toList.map (·.hash) := List.modify_id _ _
      rw [this]
      exact q.hs
    · unfold setD
      rw [h3, if_pos (by simp)]
      exact (zip_set q.ok hk hlen q.nd h1).symm
end
theorem dX_ok {P : Program} {w : World} {H : Hp} {h : Heap} {a : Addr} {o : Obj} (e : h.get? a = some o) : ObjOk P w H h a (dX a o) := ⟨e, ⟨o, e⟩, fun h1 h2 p k => k o p⟩
theorem empty_ok {w : World} {a : Addr} (hd : (a == sysModules) = false) : DctOk w a { cls := .type "dict", data := .dict #[] } #[] 0 [] [] [] := { ex := ⟨rfl, rfl, rfl⟩, dt := rfl, nm := hd, k := .nil, v := .nil, hs := rfl, ok := (fun _ h => nomatch h), nd := List.nodup_nil, sz := Nat.zero_le _ }
section
variable {X : Cx} {F : Fx} {Cl : Str → Addr} {W : WX}
/-- {} -/
def dNewD : DE := fun _ _ Q => Q (.dct [])
/-- d[k] = v, d a dict of the body's own -/
def dPut (i : Nat) (dk dv : DE) : DS := fun De ρ => ∃ kvs, ρ[i]? = some (some (.own (.dct kvs))) ∧ dv ρ (De.ex ρ) fun v => dk ρ (De.ex ρ) fun k => keyOk k ∧ kvs.length < sizeLine ∧ De.nx (ρ.set i (some (.own (.dct (setD kvs k v)))))
end
end HD
/-! HE2: own[k], d.get(k, x), dict comprehensions. -/
namespace HD
open PySem PySem.Spec PyProof.Rows L2
section
variable {X : Cx} {F : Fx} {Cl : Str → Addr} {W : WX} {B : Bg}
/-- own[k] -/
def dIxO (i : Nat) (db : DE) : DE := fun ρ Xd Q => ∃ d, ρ[i]? = some (some (.own d)) ∧ db ρ Xd fun y => rIx d y Q
/-! ### d.get(k, x) -/
/-- what is known of a dict that is asked -/
def rGet (d k x : D) (Q : D → Prop) : Prop := match d with
  | .dct kvs => keyOk k ∧ Q ((lookD kvs k).getD x)
  | _ => False
def dGet2 (dd dk dx : DE) : DE := fun ρ Xd Q => dd ρ Xd fun d => (∃ kvs, d = .dct kvs) ∧ dk ρ Xd fun k => dx ρ Xd fun x => rGet d k x Q
theorem xGet2 {o e f : Expr} {apos cpos : Pos} {dd dk dx : DE} (hu : X.A.units + 65 < cLine) (ho : PE X o (upE F Cl W dd)) (he : PE X e (upE F Cl W dk)) (hf : PE X f (upE F Cl W dx)) (m : M2 X o "get" apos e f cpos := by exact ⟨rfl, rfl, rfl, rfl⟩) (hK : X.K = F.K := by rfl) (hw : X.w = F.B.w := by rfl) :
    PE X (.Call (.Attribute o "get" apos) [e, f] [] cpos) (upE F Cl W (dGet2 dd dk dx)) := by
  refine ⟨fun pins s σ H Q I ⟨ρ, Xd, Qd, env, h, xo, k⟩ => ?_⟩
  refine wpAny_Call_method m.base m.few m.line PySem.F.plainAttrs_dict PySem.F.slot_dict_get PySem.F.type_dict_get (thn (ho.run pins s σ H (fun v H1 => ∃ kvs, Ex F.B H H1 ∧ Is F.B (OS F σ ρ) F.K H1 v (.dct kvs) ∧ dk ρ Xd fun k => dx ρ Xd fun x => keyOk k ∧ Qd ((lookD kvs k).getD x)) I ⟨ρ, _, _, env, h, xo, fun d ⟨⟨kvs, e⟩, z⟩ v H1 x1 iv => by subst e; exact ⟨kvs, x1, iv, z⟩⟩) fun u s1 ⟨x, H1, I1, rx, kvs, x1, iv, q1⟩ => ?_)
  have env1 := env.ex' x1
  cases iv with
  | @dct a o es ep kv vv ks vs hH nO q r1 r2 =>
    cases rx
    have q' : DctOk X.w a o es ep kv vv ks := by rw [hw]; exact q
    have kr : KeysRd X.K H1 kv ks := by rw [hK]; exact keysRd_of r1 q.ok
    have g := dictG_of I1 hH q' kr
    refine ⟨g.typeIs, fun b z => ?_, ?_⟩
    · cases z
      exact ⟨o, g.at_, q.ex.2.1⟩
    rw [m.trees]
    refine Calls.callWith_builtin rfl (Calls.evalArgs_plain (Calls.spliced_cons (thn (he.run pins s1 σ H1 (fun y H2 => ∃ k, Ex F.B H1 H2 ∧ Is F.B (OS F σ ρ) F.K H2 y k ∧ dx ρ Xd fun x => keyOk k ∧ Qd ((lookD (ks.zip vs) k).getD x)) I1 ⟨ρ, _, _, env1, q1, xo.ex x1, fun k hk y H2 x2 iy => ⟨k, x2, iy, hk⟩⟩) fun iv s2 ⟨y, H2, I2, ry, kd, x2, iy, q2⟩ => ?_)))
    have env2 := env1.ex' x2
    refine Calls.spliced_cons (thn (hf.run pins s2 σ H2 (fun z H3 => ∃ x, Ex F.B H2 H3 ∧ Is F.B (OS F σ ρ) F.K H3 z x ∧ keyOk kd ∧ Qd ((lookD (ks.zip vs) kd).getD x)) I2 ⟨ρ, _, _, env2, q2, (xo.ex x1).ex x2, fun x hx z H3 x3 iz => ⟨x, x3, iz, hx⟩⟩) fun fv s3 ⟨z, H3, I3, rz, xd, x3, iz, hk, hq⟩ => Calls.spliced_nil ?_)
    have x13 := x2.trans x3
    have hH3 : H3 a = some (dX a o) := x13.at hH fun e => nO (by rw [e]; exact env.osb)
    have r1' := r1.ex x13 env.osb
    have r2' := r2.ex x13 env.osb
    have kr3 : KeysRd X.K H3 kv ks := by rw [hK]; exact keysRd_of r1' q.ok
    refine GD.get2_g (by omega) (keyAt_of I3 (by rw [hK]; exact (iy.ex x3 env.osb).key hk) ry hk.1 hk.2) (dictG_of I3 hH3 q' kr3) fun n => ?_
    cases e : lookD (ks.zip vs) kd with
    | none =>
      rw [look_non q r1' r2' hk e]
      rw [e] at hq
      exact ⟨z, H3, I3.tok _, rz, k _ hq _ H3 (x1.trans x13) iz⟩
    | some d =>
      obtain ⟨u, v', h1, h2, h3⟩ := look_val q r1' r2' hk e
      rw [h1]
      rw [e] at hq
      exact ⟨v', H3, I3.tok _, h2, k _ hq _ H3 (x1.trans x13) h3⟩
end
/-! ### dict comprehensions -/
theorem d_dictSetX {X : Cx} {pins : List (Addr × Obj)} {σ : L2.St} {H : Hp} {s : Shared} {E : Value → Shared → Prop} {D : Addr} {o : Obj} {es : Array DictEntry} {ep : Nat} {kv vv : List V} {ks : List HD.D} {p : PyData} {yk : V} {u r : Value} {Q : Unit → Shared → Prop} (hu : X.A.units + 8 < cLine) (I : Inv X pins σ H s) (hD : H D = some (dX D o)) (q : DctOk X.w D o es ep kv vv ks) (kr : KeysRd X.K H kv ks) (hz : es.size < sizeLine)
    (hy : Dp X.K H yk p) (h5 : GD.hk p = true) (h6 : p.depth ≤ 8) (ry : RelV yk u) (h : ∀ h' o' ep' n, GD.DictG X.w h' D o' (GD.putE X.w es (ks.map toP) p u r) ep' (GD.putKs (ks.map toP) p) → Inv X pins σ (upd H D (dX D o')) { s with heap := h', toks := s.toks + n } → Q () { s with heap := h', toks := s.toks + n }) : wpAny (model X.prog X.w) X.A (dictSet D u r) Q E s :=
  GD.set_g hu (keyAt_of I hy ry h5 h6) (dictG_of I hD q kr) hz fun h' o' ep' n g' hs => h h' o' ep' n g' (d_write I (by rw [hD]; exact True.intro) hs ⟨o', g'.at_⟩ (dX_ok g'.at_))
def dict0 : Obj := { cls := .type "dict", data := .dict #[] }
/-- {k: v for target in iter if ..}: D the new dict, always the very object that is told -/
def tDcX (w : World) (K : PySem.W.Frag) (wi : TI) (g : TG) (tt : TT) (tk tv : TE) (vs : List Nat) : TE := fun σ H Q => wi σ H fun J H1 => ∀ D, H1 D = none → (D == sysModules) = false → ∃ W : Nat → Nat → Hp → Prop, (∃ m, W 0 m (upd H1 D (dX D dict0))) ∧ ∀ i m H, W i m H →
  (J.stop i H ∧ Q (.ref D) H) ∨ (J.go i H ∧ ∃ Nx : Hp → Prop, (∀ H', Nx H' → ∃ m', m' < m ∧ W (i + 1) m' H') ∧ ∀ x H', J.yld i H x H' → g x (wipe σ vs) H' fun σ2 H2 => wipe σ2 vs = wipe σ vs ∧ tt σ2 H2 fun b H3 =>
    if b = true then tk σ2 H3 fun y H4 => tv σ2 H4 fun z H5 => ∃ o es ep kv vv ks p, H5 D = some (dX D o) ∧ DctOk w D o es ep kv vv ks ∧ KeysRd K H5 kv ks ∧ es.size < sizeLine ∧ Dp K H5 y p ∧ GD.hk p = true ∧ p.depth ≤ 8 ∧
      (∀ u r h' o' ep', RelV y u → RelV z r → GD.DictG w h' D o' (GD.putE w es (ks.map toP) p u r) ep' (GD.putKs (ks.map toP) p) → Nx (upd H5 D (dX D o'))) else Nx H3)
section
variable {X : Cx}
theorem dcX_core {pins : List (Addr × Obj)} {s : Shared} {σ : L2.St} {H : Hp} {Q : VK} {kx vx tg iter : Expr} {ifs : List Expr} {scope : Scope} {own : List (Str × Nat)} {pos pos' : Pos} {wi : TI} {g : TG} {tt : TT} {tk tv : TE} {use : Option (Value → Sem Unit)} {Qf : Value → Shared → Prop}
    (hu : X.A.units + 65 < cLine) (hc : X.calm = true) (hN : X.N.Nodup) (I : Inv X pins σ H s) (hi : PI X tg iter wi) (ok : BlkOk X.N X.env.scope scope own)
    (hg : ∀ s H C cl fp, PG (X.blk s H scope (compEnvC scope cl C X.env) fp) tg g) (ht : ∀ s H C cl fp, PTs (X.blk s H scope (compEnvC scope cl C X.env) fp) ifs tt)
    (hk : ∀ s H C cl fp, PE (X.blk s H scope (compEnvC scope cl C X.env) fp) kx tk)
    (he : ∀ s H C cl fp, PE (X.blk s H scope (compEnvC scope cl C X.env) fp) vx tv) (hs : ∀ x, foldedSetIterable iter X.env x = pure x)
    (h : tDcX X.w X.K wi g tt tk tv (own.map (·.2)) σ H Q)
    (hRR : ∀ D C s' m H', Inv X pins σ H' s' → Q (.ref D) H' → s'.heap.Ns C m → FpOk X pins H' C → compPost (model X.prog X.w) X.A X.xe use Qf (.ref D) C (.ok .next) s') :
    wpAny (model X.prog X.w) X.A (comprehension (.DictComp kx vx [⟨tg, iter, ifs, 0⟩] scope pos) scope X.env pos' newDict false (eval iter X.env) use) Qf X.xe s := by
  have fre : ∀ y ∈ scope.names, y.2 = .free → ∃ c, X.env.cells.lookup y.1 = some c := fun y hy e =>
    (ok.free y hy e).elim (fun k => I.ok.has _ (.inl k)) fun k => I.ok.has _ (.inr k)
  refine wpAny_comprehension_free (use := use) rfl hs (closure_ok fre) ok.kind (fun y hy e => by rw [ok.uniq y hy, e]) (thn (hi.run pins s σ H _ I h) fun xv s1 hx => thn hx fun itv s2 ⟨it, fp, tn, J, H2, e, I2, T, st2, f2, q⟩ => ?_)
  subst e
  refine wpAny_newObj_type (newEnv_comp ?_)
  generalize hD : s2.heap.objs.size = D
  have hn2 : H2 D = none := I2.hok.fresh (Nat.le_of_eq hD)
  have hd2 : (D == sysModules) = false := beq_eq_false_iff_ne.mpr (by rw [← hD]; exact Ne.symm (Nat.ne_of_lt I2.big))
  obtain ⟨W, ⟨m0, w0⟩, turn⟩ := q D hn2 hd2
  generalize hs3 : ({ s2 with heap := s2.heap.push { cls := .type "dict", data := .dict #[] } } : Shared) = s3
  have hp3 : s3.heap = s2.heap.push dict0 := by rw [← hs3]; rfl
  have I3 : Inv X pins σ (upd H2 D (dX D dict0)) s3 := by
    rw [← hs3, ← hD]
    exact I2.laid (t' := s2.toks) (fun b o e => Heap.get?_push_of_some _ e) (Nat.le_refl _) (dX_ok (Heap.get?_push_size _ rfl))
  have f3 : ∀ b ∈ fp, FpOk X pins (upd H2 D (dX D dict0)) b ∧ b < s3.heap.objs.size := fun b hb => by
    obtain ⟨ob, eo, _⟩ := T.obj _ _ st2 b hb
    have lt := Heap.lt_size eo
    exact ⟨⟨by rw [upd_ne (by rw [← hD]; exact Nat.ne_of_lt lt)]; exact (f2 b hb).1, (f2 b hb).2⟩, by rw [hp3, Heap.size_push]; exact Nat.lt_succ_of_lt lt⟩
  have st3 : tn 0 s3.heap := T.keep _ _ _ st2 fun b _ o e => by rw [hp3]; exact Heap.get?_push_of_some _ e
  have I4 := block_start I3 ok hN f3
  generalize hcl : cellsFrom (s3.heap.objs.size + 1) scope.names (cloFrom X.env.cells scope.names []) = cl at I4 ⊢
  have pg := hg s3 (upd H2 D (dX D dict0)) s3.heap.objs.size cl fp
  have pt := ht s3 (upd H2 D (dX D dict0)) s3.heap.objs.size cl fp
  have pk := hk s3 (upd H2 D (dX D dict0)) s3.heap.objs.size cl fp
  have pe := he s3 (upd H2 D (dX D dict0)) s3.heap.objs.size cl fp
  show codeAny _ _ (.compStart (.DictComp kx vx [⟨tg, iter, ifs, 0⟩] scope pos) 0 (.ref it) (.ref D) (compEnvC scope cl s3.heap.objs.size X.env)) (compPost (model X.prog X.w) X.A X.xe use Qf (.ref D) s3.heap.objs.size) { s3 with heap := pushCells (s3.heap.push { cls := .type "dict", data := .dict #[] }) scope.names }
  generalize hce : compEnvC scope cl s3.heap.objs.size X.env = ce at I4 pg pt pk pe ⊢
  have cL : ce.locals = s3.heap.objs.size := by subst hce; rfl
  have n3 : ∀ b ∈ fp, upd H2 D (dX D dict0) b = none := fun b hb => (f3 b hb).1.1
  generalize hH3 : upd H2 D (dX D dict0) = H3 at I3 I4 pg pt pk pe w0 n3 f3
  generalize hs4 : ({ s3 with heap := pushCells (s3.heap.push { cls := .type "dict", data := .dict #[] }) scope.names } : Shared) = s4 at I4 ⊢
  have st4 : tn 0 s4.heap := T.keep _ _ _ st3 fun b _ o e => by rw [← hs4]; exact pushCells_keeps _ _ _ _ (Heap.get?_push_of_some _ e)
  have fpk : ∀ {τ : L2.St} {G : Hp} {z : Shared}, Inv (X.blk s3 H3 scope ce fp) [] τ G z → (∀ b ∈ fp, G b = none) → ∀ b ∈ fp, FpOk (X.blk s3 H3 scope ce fp) [] G b := fun {τ G z} J0 hn b hb =>
    ⟨hn b hb, (J0.ok.exf b hb).1, J0.ok.exfs b hb, .inl hb, fun x c e => (J0.ok.exf b hb).2 x c e, fun p hp => absurd (show p ∈ ([] : List (Addr × Obj)) ++ [] from hp) (by simp)⟩
  have loop : codeAny (model X.prog X.w) X.A (.compLoop (.DictComp kx vx [⟨tg, iter, ifs, 0⟩] scope pos) 0 (.ref it) (.ref D) ce) (compPost (model X.prog X.w) X.A X.xe use Qf (.ref D) s3.heap.objs.size) s4 := by
    refine compLoop_anyD (fun n z => ∃ i G, Inv (X.blk s3 H3 scope ce fp) [] (wipe σ (own.map (·.2))) G z ∧ tn i z.heap ∧ (∀ b ∈ fp, G b = none) ∧ W i n G) ?_ m0 ⟨0, H3, I4, st4, n3, w0⟩
    rintro n s5 ⟨i, H5, I5, st5, n5, w5⟩
    rcases turn i n H5 w5 with ⟨stop, qq⟩ | ⟨go, Nx, hNx, step⟩
    · refine thnF (T.done (X.blk s3 H3 scope ce fp) rfl rfl rfl hc i [] s5 _ H5 (fun _ _ => False) I5 (fpk I5 n5) st5 stop) fun r s6 ⟨hr, I6⟩ => ?_
      subst hr
      have I7 : Inv X pins σ H5 s6 := I3.call' (ch := fp) I6.os I6.base I6.hok I6.bare fun b hb => ⟨(f3 b hb).1.2.2.2.1, (f3 b hb).1.2.1, (f3 b hb).1.2.2.2.2.1, (f3 b hb).1.2.2.2.2.2⟩
      have nC : H5 s3.heap.objs.size = none := by
        have z : H5 ce.locals = none := I6.free
        rw [cL] at z
        exact z
      obtain ⟨m, hn, _⟩ := I6.loc
      have hn : s6.heap.Ns ce.locals m := hn
      rw [cL] at hn
      exact hRR D s3.heap.objs.size s6 m H5 I7 qq hn (I3.fpOk (Nat.le_refl _) nC)
    · refine thnF (T.item (X.blk s3 H3 scope ce fp) rfl rfl rfl hc i [] s5 _ H5 (fun _ _ => False) I5 (fpk I5 n5) st5 go) fun r s6 ⟨u, hr, h6⟩ => ?_
      subst hr
      refine thnF h6 fun _ s7 ⟨x, H7, I7, r7, y7, st7, n7⟩ => ?_
      refine thnF (pg.run _ s7 _ H7 x u _ (I7.pinned (fpk I7 n7) (T.obj _ _ st7)) r7 (step x H7 y7)) fun _ s8 ⟨σ8, H8, I8, hw8, q8⟩ => ?_
      refine thnF (pt.run _ s8 σ8 H8 _ I8 q8) fun b s9 ⟨H9, I9, q9⟩ => ?_
      have fin : ∀ {z : Shared} {G : Hp}, Inv (X.blk s3 H3 scope ce fp) ([] ++ pinsAt fp s7.heap) σ8 G z → Nx G → ∃ m, m < n ∧ ∃ i G, Inv (X.blk s3 H3 scope ce fp) [] (wipe σ (own.map (·.2))) G z ∧ tn i z.heap ∧ (∀ b ∈ fp, G b = none) ∧ W i m G := fun {z G} J0 nx => by
        obtain ⟨m', hm, w'⟩ := hNx G nx
        have pin : ∀ b ∈ fp, ∀ o, s7.heap.get? b = some o → z.heap.get? b = some o ∧ G b = none := fun b hb o e =>
          let y := J0.pin (b, o) (List.mem_append_right _ (List.mem_append_right _ (mem_pinsAt hb e)))
          ⟨y.1, y.2.1⟩
        have hl : (wipe σ (own.map (·.2))).length = σ8.length := by rw [← hw8, wipe_length]
        refine ⟨m', hm, i + 1, G, (J0.unpinned (pins := [])).weak hl (fun j v e => ?_), T.keep _ _ _ st7 fun b hb o e => (pin b hb o e).1, fun b hb => ?_, w'⟩
        · rw [← hw8] at e
          exact (wipe_some e).1
        · obtain ⟨o, e, _⟩ := T.obj _ _ st7 b hb
          exact (pin b hb o e).2
      cases b with
      | false =>
        simp only [Bool.false_eq_true, if_false] at q9 ⊢
        exact fin I9 q9
      | true =>
        simp only [if_true] at q9 ⊢
        refine thnF (pk.run _ s9 σ8 H9 _ I9 q9) fun z s10 ⟨yk, H10, I10, r10, q10⟩ => ?_
        refine thnF (pe.run _ s10 σ8 H10 _ I10 q10) fun z2 s11 ⟨yv, H11, I11, r11, o, es, ep, kv, vv, ks, p, c1, c2, c3, c4, c5, c6, c7, nx⟩ => ?_
        exact d_dictSetX (X := X.blk s3 H3 scope ce fp) (show X.A.units + 8 < cLine by omega) I11 c1 c2 c3 c4 c5 c6 c7 r10 fun h' o' ep' n' g' I12 => fin I12 (nx _ _ _ _ _ r10 r11 g')
  exact codeAny_compStart_dict loop (T.self X.A 0 _ _ _ st4 loop)
theorem pe_dcX {kx vx tg iter : Expr} {ifs : List Expr} {scope : Scope} {own : List (Str × Nat)} {pos : Pos} {wi : TI} {g : TG} {tt : TT} {tk tv : TE} (hu : X.A.units + 65 < cLine) (hc : X.calm = true) (hN : X.N.Nodup) (hi : PI X tg iter wi) (ok : BlkOk X.N X.env.scope scope own)
    (hg : ∀ s H C cl fp, PG (X.blk s H scope (compEnvC scope cl C X.env) fp) tg g) (ht : ∀ s H C cl fp, PTs (X.blk s H scope (compEnvC scope cl C X.env) fp) ifs tt)
    (hk : ∀ s H C cl fp, PE (X.blk s H scope (compEnvC scope cl C X.env) fp) kx tk)
    (he : ∀ s H C cl fp, PE (X.blk s H scope (compEnvC scope cl C X.env) fp) vx tv) (hs : ∀ x, foldedSetIterable iter X.env x = pure x := by intro _; rfl) :
    PE X (.DictComp kx vx [⟨tg, iter, ifs, 0⟩] scope pos) (tDcX X.w X.K wi g tt tk tv (own.map (·.2))) := by
  refine ⟨fun pins s σ H Q I h => ?_⟩
  rw [arm_eval_DictComp]
  refine dcX_core hu hc hN I hi ok hg ht hk he hs h fun D C s' m H' I' q hn ⟨f0, f1, f2, f3, f4, f5⟩ => ⟨m, hn, fun h'' sb => ?_⟩
  exact ⟨.ref D, H', I'.turned (t' := s'.toks) (fun b o hb e => (sb.2 b hb).trans e) f0 f1 f3 f4 f5, rfl, q⟩
end
end HD
/-! HE3: dict comprehensions over data. -/
namespace HD
open PySem PySem.Spec PyProof.Rows L2
/-- one item after the other -/
def dcD (tg : DG) (dt : DT) (dk dv : DE) : List D → List (D × D) → Rho → (List (D × D) → Prop) → Prop
  | [], acc, _, Q => Q acc
  | d :: r, acc, ρ, Q => tg d ρ fun ρ1 => dt ρ1 (fun _ => False) fun c => if c = true then dk ρ1 (fun _ => False) (fun k => dv ρ1 (fun _ => False) fun v => keyOk k ∧ acc.length < sizeLine ∧ dcD tg dt dk dv r (setD acc k v) ρ Q) else dcD tg dt dk dv r acc ρ Q
def dDc (di : DI) (tg : DG) (dt : DT) (dk dv : DE) (vs : List Nat) : DE := fun ρ Xd Q => noOwn ρ vs = true ∧ di ρ Xd fun ds => dcD tg dt dk dv ds [] (wipeR ρ vs) fun acc => Q (.dct acc)
section
variable {X : Cx} {F : Fx} {Cl : Str → Addr} {W : WX}
theorem up_dc {di : DI} {tg : DG} {dt : DT} {dk dv : DE} {vs : List Nat} : ∀ σ H Q, upN F Cl W (dDc di tg dt dk dv vs) σ H Q →
    tDcX F.B.w F.K (upI F Cl W di) (fun x σ H Q => ∃ g, upG (F.wg g) vs tg x σ H Q) (fun σ H Q => ∃ g, upT (F.wg g) Cl WF dt σ H Q) (fun σ H Q => ∃ g, upE (F.wg g) Cl WF dk σ H Q) (fun σ H Q => ∃ g, upE (F.wg g) Cl WF dv σ H Q) vs σ H Q := by
  rintro σ H Q ⟨ρ, Xd, Qd, env, ⟨hno, h⟩, xo, k⟩
  refine ⟨ρ, Xd, _, env, h, xo, fun ds hd J v d H1 e1 is yl D hD hsm => ?_⟩
  have envS : EnvOk (F.wg ((v, d), D)) (upd H1 D (dX D dict0)) (L2.wipe σ vs) (wipeR ρ vs) := by
    have z := ((env.ex' e1).ghost is).wipe vs
    exact z.bar hD
  have nb : D ≠ F.B.b ∧ D ≠ F.B.l := ⟨fun z => (env.ex' e1).oa F.B.b env.ob (by rw [← z]; exact hD), fun z => (env.ex' e1).oa F.B.l env.ol (by rw [← z]; exact hD)⟩
  have h0 : F.H0 D = none := (env.ex' e1).ex.free hD
  let Wd : Hp → List HD.D → Prop := fun H' rest => EnvOk (F.wg ((v, d), D)) H' (L2.wipe σ vs) (wipeR ρ vs) ∧ Ex F.B H1 H' ∧ ∃ o es ep kv vv ks ws, H' D = some (dX D o) ∧ DctOk F.B.w D o es ep kv vv ks ∧ IsL F.B (OS (F.wg ((v, d), D)) (L2.wipe σ vs) (wipeR ρ vs)) F.K H' kv ks ∧ IsL F.B (OS (F.wg ((v, d), D)) (L2.wipe σ vs) (wipeR ρ vs)) F.K H' vv ws ∧ dcD tg dt dk dv rest (ks.zip ws) (wipeR ρ vs) (fun acc => Qd (.dct acc))
  refine ⟨fun i m H' => i ≤ ds.length ∧ m = ds.length - i ∧ Wd H' (ds.drop i),
    ⟨ds.length, Nat.zero_le _, by simp, envS, Ex.new hD, dict0, #[], 0, [], [], [], [], upd_same, empty_ok hsm, .nil, .nil, by simpa using hd⟩, ?_⟩
  rintro i m H' ⟨hle, rfl, env', x1, o, es, ep, kv, vv, ks, ws, hx, dq, ik, iw, hf⟩
  have gi : Is F.B (OS (F.wg ((v, d), D)) (L2.wipe σ vs) (wipeR ρ vs)) F.K H' v d := env'.gh (v, d) (List.mem_cons_self ..)
  obtain ⟨y1, y2⟩ := yl _ H' env'.osb env'.oall gi
  by_cases hlt : i < ds.length
  · have hx2 : ds[i]? = some ds[i] := by simp [hlt]
    rw [List.drop_eq_getElem_cons hlt] at hf
    obtain ⟨z1, z2⟩ := y1 i _ hx2
    refine .inr ⟨z1, fun H2 => Wd H2 (ds.drop (i + 1)), fun H2 q => ⟨ds.length - (i + 1), by omega, hlt, rfl, q⟩, fun x H2 yd => ?_⟩
    obtain ⟨w1, w2⟩ := z2 x H2 yd
    refine ⟨((v, d), D), wipeR ρ vs, _, _, env'.ex' w1, w2, hf, fun ρ3 q3 σ3 env3 ag agr => ⟨wipe_agree ag, ((v, d), D), ρ3, _, _, env3, q3, fun e he => he.elim, fun c hc H4 x4 => ?_⟩⟩
    have so : ∀ a, OS (F.wg ((v, d), D)) (L2.wipe σ vs) (wipeR ρ vs) a → OS (F.wg ((v, d), D)) σ3 ρ3 a := fun a z => by
      rcases z with z | ⟨j, u, z1, z2⟩
      · exact .inl z
      · have hj : j ∉ vs := fun hm => by
          rcases wipe_in j none vs (wipeR ρ) (fun _ _ => rfl) hm with q | q
          · rw [q] at z1; cases z1
          · rw [q] at z1; cases z1
        exact .inr ⟨j, u, by rw [agr.2 j hj]; exact z1, by rw [ag.2 j hj]; exact z2⟩
    have x14 := w1.trans x4
    have nbD : ∀ {Ha Hb : Hp} {o : HO}, Ex F.B Ha Hb → Ha D = some o → Hb D = some o := fun x e => x.at e nb.1
    cases c with
    | false => exact ⟨env'.ex' x14, x1.trans x14, o, es, ep, kv, vv, ks, ws, nbD x14 hx, dq, ik.ex x14 env'.osb, iw.ex x14 env'.osb, hc⟩
    | true =>
      refine ⟨((v, d), D), ρ3, _, _, env3.ex' x4, hc, fun e he => he.elim, fun y hy u H5 x5 iu => ?_⟩
      refine ⟨((v, d), D), ρ3, _, _, (env3.ex' x4).ex' x5, hy, fun e he => he.elim, fun z ⟨hk, hz, hn⟩ t H6 x6 it => ?_⟩
      have x16 := (x14.trans x5).trans x6
      have hx6 := nbD x16 hx
      have ik6 := ik.ex x16 env'.osb
      have iw6 := iw.ex x16 env'.osb
      have iu6 : Is F.B (OS (F.wg ((v, d), D)) (L2.wipe σ vs) (wipeR ρ vs)) F.K H6 u y := (iu.ex x6 env3.osb).sub (fun a z => .inl (so a z)) env'.osb
      have it6 : Is F.B (OS (F.wg ((v, d), D)) (L2.wipe σ vs) (wipeR ρ vs)) F.K H6 t z := it.sub (fun a z => .inl (so a z)) env'.osb
      have hzz : es.size < sizeLine := by
        have hlen := dct_len dq ik iw
        rw [List.length_zip, ← hlen, Nat.min_self] at hz
        have h1 := dq.k.length
        rw [List.length_map] at h1
        have h2 := ik.length
        simp at h1
        omega
      refine ⟨o, es, ep, kv, vv, ks, toP y, hx6, dq, keysRd_of ik6 dq.ok, hzz, iu6.key hk, hk.1, hk.2, fun uk ur h' o' ep' ruk rur g' => ?_⟩
      obtain ⟨kv', vv', ks', ws', q1, q2, q3, q4⟩ := put_dct dq ik6 iw6 hk iu6 it6 ruk rur g'
      have hm : MutO (dX D o) := .inr (.inl ⟨_, rfl⟩)
      exact ⟨(env'.ex' x16).barMut hx6 hm h0 nb.1 nb.2, (x1.trans x16).mutN hD nb.1 nb.2, o', _, ep', kv', vv', ks', ws', upd_same, q1, q2.mut (.inl (.inr rfl)) hx6 hm nb.1 nb.2, q3.mut (.inl (.inr rfl)) hx6 hm nb.1 nb.2, by rw [q4]; exact hn⟩
  · have e : i = ds.length := by omega
    subst e
    rw [List.drop_length] at hf
    have back : ∀ c, (OS F σ ρ c ∨ c = D) → OS (F.wg ((v, d), D)) (L2.wipe σ vs) (wipeR ρ vs) c ∨ H' c = none := fun c z => by
      rcases z with z | z
      · refine .inl ?_
        rcases os_wipe hno z with q | q
        · exact .inl (.inl q)
        · exact .inr q
      · exact .inl (.inl (.inr z))
    exact .inl ⟨y2, k _ hf D H' (e1.trans x1) (e1.free hD) (.dct hx dq (ik.sub back (.inl env.osb)) (iw.sub back (.inl env.osb)))⟩
theorem nDc {kx vx tg iter : Expr} {ifs : List Expr} {scope : Scope} {own : List (Str × Nat)} {pos : Pos} {di : DI} {dg : DG} {dt : DT} {dk dv : DE} (hu : X.A.units + 65 < cLine) (hc : X.calm = true) (hN : X.N.Nodup) (ok : BlkOk X.N X.env.scope scope own) (hi : PI X tg iter (upI F Cl W di))
    (hg : ∀ g s H C cl fp, PG (Blk X scope s H C cl fp) tg (upG (F.wg g) (own.map (·.2)) dg)) (ht : ∀ g s H C cl fp, PTs (Blk X scope s H C cl fp) ifs (upT (F.wg g) Cl WF dt)) (hk : ∀ g s H C cl fp, PE (Blk X scope s H C cl fp) kx (upE (F.wg g) Cl WF dk)) (hv : ∀ g s H C cl fp, PE (Blk X scope s H C cl fp) vx (upE (F.wg g) Cl WF dv))
    (hs : ∀ x, foldedSetIterable iter X.env x = pure x := by intro _; rfl) (hK : X.K = F.K := by rfl) (hw : X.w = F.B.w := by rfl) : PE X (.DictComp kx vx [⟨tg, iter, ifs, 0⟩] scope pos) (upN F Cl W (dDc di dg dt dk dv (own.map (·.2)))) :=
  pe_imp (pe_dcX hu hc hN hi ok (fun s H C cl fp => pg_ex fun g => hg g s H C cl fp) (fun s H C cl fp => pts_ex fun g => ht g s H C cl fp) (fun s H C cl fp => pe_ex fun g => hk g s H C cl fp) (fun s H C cl fp => pe_ex fun g => hv g s H C cl fp) hs) (by rw [hK, hw]; exact up_dc)
end
end HD
/-! HE4: x = {k: v for ..}. -/
namespace HD
open PySem PySem.Spec PyProof.Rows L2
section
variable {X : Cx} {F : Fx} {Cl : Str → Addr} {W : WX}
end
end HD
/-! HE5: list comprehensions of two clauses. -/
namespace HD
open PySem PySem.Spec PyProof.Rows L2
def lc2D (tg : DG) (dt : DT) (di1 : DI) (tg1 : DG) (dt1 : DT) (de : DE) (vs1 : List Nat) : List D → List D → Rho → (List D → Prop) → Prop
  | [], acc, _, Q => Q acc
  | d :: r, acc, ρ, Q => tg d ρ fun ρ1 => dt ρ1 (fun _ => False) fun c => if c = true then di1 ρ1 (fun _ => False) (fun es => lcD tg1 dt1 de es acc (wipeR ρ1 vs1) fun acc1 => lc2D tg dt di1 tg1 dt1 de vs1 r acc1 ρ Q) else lc2D tg dt di1 tg1 dt1 de vs1 r acc ρ Q
def dLc2 (di : DI) (tg : DG) (dt : DT) (di1 : DI) (tg1 : DG) (dt1 : DT) (de : DE) (vs vs1 : List Nat) : DE := fun ρ Xd Q => noOwn ρ vs = true ∧ di ρ Xd fun ds => lc2D tg dt di1 tg1 dt1 de vs1 ds [] (wipeR ρ vs) fun acc => Q (.lst acc)
/-- within the second clause -/
abbrev Fx.wg2 (F : Fx) (g : ((V × D) × Addr) × (V × D)) : Fx := (F.wg g.1).gh g.2
section
variable {X : Cx} {F : Fx} {Cl : Str → Addr} {W : WX}
theorem up_lc2 {di : DI} {tg : DG} {dt : DT} {di1 : DI} {tg1 : DG} {dt1 : DT} {de : DE} {vs vs1 : List Nat} (hv : ∀ i ∈ vs1, i ∈ vs) : ∀ σ H Q, upN F Cl W (dLc2 di tg dt di1 tg1 dt1 de vs vs1) σ H Q →
    tLc2 (upI F Cl W di) (fun x σ H Q => ∃ g, upG (F.wg g) vs tg x σ H Q) (fun σ H Q => ∃ g, upT (F.wg g) Cl WF dt σ H Q) (fun σ H R => ∃ g, upI (F.wg g) Cl WF di1 σ H R) (fun x σ H Q => ∃ g, upG (F.wg2 g) vs1 tg1 x σ H Q) (fun σ H Q => ∃ g, upT (F.wg2 g) Cl WF dt1 σ H Q) (fun σ H Q => ∃ g, upE (F.wg2 g) Cl WF de σ H Q) vs vs1 σ H Q := by
  rintro σ H Q ⟨ρ, Xd, Qd, env, ⟨hno, h⟩, xo, k⟩
  refine ⟨ρ, Xd, _, env, h, xo, fun ds hd J v d H1 e1 is yl D hD => ?_⟩
  have envS : EnvOk (F.wg ((v, d), D)) (upd H1 D (.lst [])) (L2.wipe σ vs) (wipeR ρ vs) := by
    have z := ((env.ex' e1).ghost is).wipe vs
    exact z.bar hD
  have nb : D ≠ F.B.b ∧ D ≠ F.B.l := ⟨fun z => (env.ex' e1).oa F.B.b env.ob (by rw [← z]; exact hD), fun z => (env.ex' e1).oa F.B.l env.ol (by rw [← z]; exact hD)⟩
  have h0 : F.H0 D = none := (env.ex' e1).ex.free hD
  have nbD : ∀ {Ha Hb : Hp} {o : HO}, Ex F.B Ha Hb → Ha D = some o → Hb D = some o := fun x e => x.at e nb.1
  -- what stands between two turns
  let Wd : Hp → (List HD.D → Prop) → Prop := fun H' R => EnvOk (F.wg ((v, d), D)) H' (L2.wipe σ vs) (wipeR ρ vs) ∧ Ex F.B H1 H' ∧ ∃ acc xs, H' D = some (.lst xs) ∧ IsL F.B (OS (F.wg ((v, d), D)) (L2.wipe σ vs) (wipeR ρ vs)) F.K H' xs acc ∧ R acc
  refine ⟨fun i m H' => i ≤ ds.length ∧ m = ds.length - i ∧ Wd H' fun acc => lc2D tg dt di1 tg1 dt1 de vs1 (ds.drop i) acc (wipeR ρ vs) (fun acc => Qd (.lst acc)),
    ⟨ds.length, Nat.zero_le _, by simp, envS, Ex.new hD, [], [], upd_same, .nil, by simpa using hd⟩, ?_⟩
  rintro i m H' ⟨hle, rfl, env', x1, acc, xs, hx, ia, hf⟩
  have gi : Is F.B (OS (F.wg ((v, d), D)) (L2.wipe σ vs) (wipeR ρ vs)) F.K H' v d := env'.gh (v, d) (List.mem_cons_self ..)
  obtain ⟨y1, y2⟩ := yl _ H' env'.osb env'.oall gi
  by_cases hlt : i < ds.length
  · have hx2 : ds[i]? = some ds[i] := by simp [hlt]
    rw [List.drop_eq_getElem_cons hlt] at hf
    obtain ⟨z1, z2⟩ := y1 i _ hx2
    refine .inr ⟨z1, fun H2 => Wd H2 fun acc => lc2D tg dt di1 tg1 dt1 de vs1 (ds.drop (i + 1)) acc (wipeR ρ vs) (fun acc => Qd (.lst acc)), fun H2 q => ⟨ds.length - (i + 1), by omega, hlt, rfl, q⟩, fun x H2 yd => ?_⟩
    obtain ⟨w1, w2⟩ := z2 x H2 yd
    refine ⟨((v, d), D), wipeR ρ vs, _, _, env'.ex' w1, w2, hf, fun ρ3 q3 σ3 env3 ag agr => ⟨wipe_agree ag, ((v, d), D), ρ3, _, _, env3, q3, fun e he => he.elim, fun c hc H4 x4 => ?_⟩⟩
    have nvs : ∀ (j : Nat) (u : HD.D), (wipeR ρ vs)[j]? = some (some (.own u)) → j ∉ vs := fun j u z1 hm => by
      rcases wipe_in j none vs (wipeR ρ) (fun _ _ => rfl) hm with q | q
      · rw [q] at z1; cases z1
      · rw [q] at z1; cases z1
    have x14 := w1.trans x4
    cases c with
    | false => exact ⟨env'.ex' x14, x1.trans x14, acc, xs, nbD x14 hx, ia.ex x14 env'.osb, hc⟩
    | true =>
      refine ⟨((v, d), D), ρ3, _, _, env3.ex' x4, hc, fun e he => he.elim, fun es he J1 v1 d1 H5 x5 is1 yl1 => ?_⟩
      have x15 := x14.trans x5
      have envI : EnvOk (F.wg2 (((v, d), D), (v1, d1))) H5 (L2.wipe σ3 vs1) (wipeR ρ3 vs1) := (((env3.ex' x4).ex' x5).ghost is1).wipe vs1
      let Wi : Nat → Hp → Prop := fun j G => EnvOk (F.wg2 (((v, d), D), (v1, d1))) G (L2.wipe σ3 vs1) (wipeR ρ3 vs1) ∧ Wd G fun acc => lcD tg1 dt1 de (es.drop j) acc (wipeR ρ3 vs1) fun acc1 => lc2D tg dt di1 tg1 dt1 de vs1 (ds.drop (i + 1)) acc1 (wipeR ρ vs) (fun acc => Qd (.lst acc))
      refine ⟨fun j n G => j ≤ es.length ∧ n = es.length - j ∧ Wi j G, ⟨es.length, Nat.zero_le _, by simp, envI, env'.ex' x15, x1.trans x15, acc, xs, nbD x15 hx, ia.ex x15 env'.osb, by simpa using he⟩, ?_⟩
      rintro j n G ⟨hjl, rfl, eI, eO, xG, acc1, xs1, hx1, ia1, hf1⟩
      have gi1 : Is F.B (OS (F.wg2 (((v, d), D), (v1, d1))) (L2.wipe σ3 vs1) (wipeR ρ3 vs1)) F.K G v1 d1 := eI.gh (v1, d1) (List.mem_cons_self ..)
      obtain ⟨a1, a2⟩ := yl1 _ G eI.osb eI.oall gi1
      by_cases hjt : j < es.length
      · have hj2 : es[j]? = some es[j] := by simp [hjt]
        rw [List.drop_eq_getElem_cons hjt] at hf1
        obtain ⟨b1, b2⟩ := a1 j _ hj2
        refine .inr ⟨b1, fun G2 => Wi (j + 1) G2, fun G2 q => ⟨es.length - (j + 1), by omega, hjt, rfl, q⟩, fun y G2 yd1 => ?_⟩
        obtain ⟨c1, c2⟩ := b2 y G2 yd1
        refine ⟨(((v, d), D), (v1, d1)), wipeR ρ3 vs1, _, _, eI.ex' c1, c2, hf1, fun ρ6 q6 σ6 env6 ag6 agr6 => ⟨wipe_agree ag6, (((v, d), D), (v1, d1)), ρ6, _, _, env6, q6, fun e he => he.elim, fun cc hcc G4 x4' => ?_⟩⟩
        have so : ∀ a, OS (F.wg ((v, d), D)) (L2.wipe σ vs) (wipeR ρ vs) a → OS (F.wg2 (((v, d), D), (v1, d1))) σ6 ρ6 a := fun a z => by
          rcases z with z | ⟨t, u, z1, z2⟩
          · exact .inl z
          · have ht := nvs t u z1
            have ht1 : t ∉ vs1 := fun q => ht (hv t q)
            refine .inr ⟨t, u, ?_, ?_⟩
            · rw [agr6.2 t ht1, wipe_get t none vs1 (wipeR ρ3) ρ3 rfl (fun _ _ => rfl) ht1, agr.2 t ht]; exact z1
            · rw [ag6.2 t ht1, wipe_get t none vs1 (L2.wipe σ3) σ3 rfl (fun _ _ => rfl) ht1, ag.2 t ht]; exact z2
        have x7 := c1.trans x4'
        cases cc with
        | false => exact ⟨eI.ex' x7, eO.ex' x7, xG.trans x7, acc1, xs1, nbD x7 hx1, ia1.ex x7 eO.osb, hcc⟩
        | true =>
          refine ⟨(((v, d), D), (v1, d1)), ρ6, _, _, env6.ex' x4', hcc, fun e he => he.elim, fun w ⟨hz, hw⟩ u G5 x5' iu => ?_⟩
          have x8 := x7.trans x5'
          have hx8 := nbD x8 hx1
          have hm : MutO (HO.lst xs1) := .inl ⟨_, rfl⟩
          have ia8 := ia1.ex x8 eO.osb
          have iu8 : Is F.B (OS (F.wg ((v, d), D)) (L2.wipe σ vs) (wipeR ρ vs)) F.K G5 u w := iu.sub (fun a z => .inl (so a z)) eO.osb
          refine ⟨xs1, hx8, by rw [ia1.length]; exact hz, ?_⟩
          have eI8 := eI.ex' x8
          have bI : EnvOk (F.wg2 (((v, d), D), (v1, d1))) (upd G5 D (.lst (xs1 ++ [u]))) (L2.wipe σ3 vs1) (wipeR ρ3 vs1) := EnvOk.barMut (F := { F with G := (v1, d1) :: (v, d) :: F.G }) (p := D) eI8 hx8 hm h0 nb.1 nb.2
          exact ⟨bI, (eO.ex' x8).barMut hx8 hm h0 nb.1 nb.2, (xG.trans x8).mutN hD nb.1 nb.2, acc1 ++ [w], xs1 ++ [u], upd_same, (ia8.append (.cons iu8 .nil)).mut (.inl (.inr rfl)) hx8 hm nb.1 nb.2, hw⟩
      · have e : j = es.length := by omega
        subst e
        rw [List.drop_length] at hf1
        exact .inl ⟨a2, eO, xG, acc1, xs1, hx1, ia1, hf1⟩
  · have e : i = ds.length := by omega
    subst e
    rw [List.drop_length] at hf
    refine .inl ⟨y2, k _ hf D H' (e1.trans x1) (e1.free hD) (.lst hx (ia.sub (fun c z => ?_) (.inl env.osb)))⟩
    rcases z with z | z
    · refine .inl ?_
      rcases os_wipe hno z with q | q
      · exact .inl (.inl q)
      · exact .inr q
    · exact .inl (.inl (.inr z))
theorem pi_ex {tg e : Expr} {ι : Type} {t : ι → TI} (h : ∀ g, PI X tg e (t g)) : PI X tg e (fun σ H R => ∃ g, t g σ H R) := ⟨fun pins s σ H R I ⟨g, z⟩ => (h g).run pins s σ H R I z⟩
theorem nLc2 {elt tg iter tg1 iter1 : Expr} {ifs ifs1 : List Expr} {scope : Scope} {own : List (Str × Nat)} {vs1 : List Nat} {pos : Pos} {di : DI} {dg : DG} {dt : DT} {di1 : DI} {dg1 : DG} {dt1 : DT} {de : DE} (hc : X.calm = true) (hN : X.N.Nodup) (ok : BlkOk X.N X.env.scope scope own) (hv : ∀ i ∈ vs1, i ∈ own.map (·.2)) (hi : PI X tg iter (upI F Cl W di))
    (hg : ∀ g s H C cl fp, PG (Blk X scope s H C cl fp) tg (upG (F.wg g) (own.map (·.2)) dg)) (ht : ∀ g s H C cl fp, PTs (Blk X scope s H C cl fp) ifs (upT (F.wg g) Cl WF dt)) (hi1 : ∀ g s H C cl fp, PI (Blk X scope s H C cl fp) tg1 iter1 (upI (F.wg g) Cl WF di1))
    (hg1 : ∀ g s H C cl fp, PG (Blk X scope s H C cl fp) tg1 (upG (F.wg2 g) vs1 dg1)) (ht1 : ∀ g s H C cl fp, PTs (Blk X scope s H C cl fp) ifs1 (upT (F.wg2 g) Cl WF dt1)) (he : ∀ g s H C cl fp, PE (Blk X scope s H C cl fp) elt (upE (F.wg2 g) Cl WF de))
    (hs : ∀ x, foldedSetIterable iter X.env x = pure x := by intro _; rfl) (hs1 : ∀ env x, foldedSetIterable iter1 env x = pure x := by intro _ _; rfl) : PE X (.ListComp elt [⟨tg, iter, ifs, 0⟩, ⟨tg1, iter1, ifs1, 0⟩] scope pos) (upN F Cl W (dLc2 di dg dt di1 dg1 dt1 de (own.map (·.2)) vs1)) :=
  pe_imp (pe_lc2 hc hN hi ok hv (fun s H C cl fp => pg_ex fun g => hg g s H C cl fp) (fun s H C cl fp => pts_ex fun g => ht g s H C cl fp) (fun s H C cl fp => pi_ex fun g => hi1 g s H C cl fp) (fun s H C cl fp => pg_ex fun g => hg1 g s H C cl fp) (fun s H C cl fp => pts_ex fun g => ht1 g s H C cl fp) (fun s H C cl fp => pe_ex fun g => he g s H C cl fp) hs hs1) (up_lc2 hv)
end
end HD
/-! HE6: enumerate, zip over data. -/
namespace HD
open PySem PySem.Spec PyProof.Rows L2
section
variable {prog : Program} {w : World} {A : Around} {E : Value → Shared → Prop} {s : Shared}
end
/-- the tuple at a, each item in a new pair -/
def Iet (K : PySem.W.Frag) (a : Addr) : It :=
  ⟨fun i H => ∃ (xs : List V) (x : V), SqT K H a xs ∧ xs[i]? = some x, fun i H v H' => ∃ T x, v = .ref T ∧ H T = none ∧ H' = upd H T (.tup [.int (i : Nat), x]) ∧ ∀ xs, SqT K H a xs → xs[i]? = some x, fun i H => ∃ xs : List V, SqT K H a xs ∧ xs.length = i⟩
section
variable {X : Cx} {F : Fx} {Cl : Str → Addr} {W : WX} {B : Bg}
/-- (0, x), (1, y), .. -/
def enumD (ds : List D) : List D := (ds.zipIdx).map fun p => .tup [.int (p.2 : Nat), p.1]
def rowOf : D → Option (List D)
  | .lst ds => some ds
  | .tup ds => some ds
  | _ => none
def dEnum (de : DE) : DI := fun ρ Xd Q => de ρ Xd fun d => ∃ ds, rowOf d = some ds ∧ Q (enumD ds)
/-! ### zip of two lists, of two tuples -/
def zipD (xs ys : List D) : List D := (xs.zip ys).map fun p => .tup [p.1, p.2]
end
end HD
/-! HE7: zip over data; own things lent to a def. -/
namespace HD
open PySem PySem.Spec PyProof.Rows L2
section
variable {X : Cx} {F : Fx} {Cl : Str → Addr} {W : WX} {B : Bg}
def rZip (xs : List D) (Q : List D → Prop) : Prop := match xs with
  | [.lst ds, .lst es] => Q (zipD ds es)
  | [.tup ds, .tup es] => Q (zipD ds es)
  | _ => False
def dZip (da : DA) : DI := fun ρ Xd Q => da ρ Xd fun xs => rZip xs Q
/-! ### own things lent for a call -/
mutual
/-- no list, dict or instance stands in it -/
def imm : D → Bool
  | .non => true
  | .bl _ => true
  | .int _ => true
  | .str _ => true
  | .ty _ => true
  | .tup xs => imms xs
  | _ => false
def imms : List D → Bool
  | [] => true
  | x :: xs => imm x && imms xs
end
/-- a list of such things, or such a thing -/
def immL : D → Bool
  | .lst xs => imms xs
  | d => imm d
mutual
theorem Is.imm {O O' : Addr → Prop} {K : PySem.W.Frag} {H : Hp} : ∀ {v : V} {d : D}, Is B O K H v d → imm d = true → Is B O' K H v d
  | _, _, .non, _ => .non
  | _, _, .bl c, _ => .bl c
  | _, _, .int i, _ => .int i
  | _, _, .str s h, _ => .str s h
  | _, _, .ty n, _ => .ty n
  | _, _, .tup h r, z => .tup h (IsL.imm r (by simpa only [HD.imm] using z))
  | _, _, .lst h n r, z => by simp [HD.imm] at z
  | _, _, .dct h n q r1 r2, z => by simp [HD.imm] at z
  | _, _, .obj h n l r, z => by simp [HD.imm] at z
  | _, _, .bag h o, z => by simp [HD.imm] at z
  | _, _, .raw a, z => by simp [HD.imm] at z
  | _, _, .err h r, z => by simp [HD.imm] at z
  | _, _, .exo h n r, z => by simp [HD.imm] at z
  | _, _, .duo h1 h2, z => by simp [HD.imm] at z
theorem IsL.imm {O O' : Addr → Prop} {K : PySem.W.Frag} {H : Hp} : ∀ {vs : List V} {ds : List D}, IsL B O K H vs ds → imms ds = true → IsL B O' K H vs ds
  | _, _, .nil, _ => .nil
  | _, _, .cons h r, z => by
    have q := Bool.and_eq_true_iff.mp (by simpa only [HD.imms] using z)
    exact .cons (Is.imm h q.1) (IsL.imm r q.2)
end
/-- all that is barred, but for what slots L hold -/
def OSx (F : Fx) (σ : L2.St) (ρ : Rho) (L : List Nat) (a : Addr) : Prop := OS F σ ρ a ∧ ∀ i ∈ L, σ[i]? ≠ some (some (.ref a))
def upAL (F : Fx) (Cl : Str → Addr) (W : WX) (L : List Nat) (da : DA) : TA := fun σ H Q => ∃ ρ Xd Qd, EnvOk F H σ ρ ∧ da ρ Xd Qd ∧ XO F Cl W σ H ρ Xd ∧ (∀ i ∈ L, ∃ d, ρ[i]? = some (some (.own d))) ∧ ∀ ds, Qd ds → ∀ vs H', Ex F.B H H' → IsL F.B (OSx F σ ρ L) F.K H' vs ds → Q vs H'
def dLend (i : Nat) : DE := fun ρ _ Q => ∃ d, ρ[i]? = some (some (.own d)) ∧ Q d
def isOwn : Option (Option Sl) → Bool
  | some (some (.own _)) => true
  | _ => false
def isOwnD : Option (Option Sl) → Bool
  | some (some (.own (.dct _))) => true
  | _ => false
/-- f(.., own, ..): what comes back bears no list or dict -/
def dCallL (L : List Nat) (m : DFn) (da : DA) : DE := fun ρ Xd Q => L.all (fun i => isOwn ρ[i]?) = true ∧ da ρ Xd fun ds => m ds (fun e => imm e.2 = true ∧ Xd e) fun d => imm d = true ∧ Q d
/-! ### own dicts lent: lists may come back -/
mutual
/-- no dict, no instance stands in it -/
def noD : D → Bool
  | .non => true
  | .bl _ => true
  | .int _ => true
  | .str _ => true
  | .ty _ => true
  | .tup xs => noDs xs
  | .lst xs => noDs xs
  | _ => false
def noDs : List D → Bool
  | [] => true
  | x :: xs => noD x && noDs xs
end
mutual
theorem Is.noD {O O' : Addr → Prop} {K : PySem.W.Frag} {H : Hp} (s : ∀ a, O' a → O a ∨ ∃ φ, H a = some (.ext φ)) : ∀ {v : V} {d : D}, Is B O K H v d → noD d = true → Is B O' K H v d
  | _, _, .non, _ => .non
  | _, _, .bl c, _ => .bl c
  | _, _, .int i, _ => .int i
  | _, _, .str s h, _ => .str s h
  | _, _, .ty n, _ => .ty n
  | _, _, .tup h r, z => .tup h (IsL.noD s r (by simpa only [HD.noD] using z))
  | _, _, .lst h n r, z => .lst h (fun q => (s _ q).elim n fun ⟨φ, e⟩ => by rw [h] at e; cases e) (IsL.noD s r (by simpa only [HD.noD] using z))
  | _, _, .dct h n q r1 r2, z => by simp [HD.noD] at z
  | _, _, .obj h n l r, z => by simp [HD.noD] at z
  | _, _, .bag h o, z => by simp [HD.noD] at z
  | _, _, .raw a, z => by simp [HD.noD] at z
  | _, _, .err h r, z => by simp [HD.noD] at z
  | _, _, .exo h n r, z => by simp [HD.noD] at z
  | _, _, .duo h1 h2, z => by simp [HD.noD] at z
theorem IsL.noD {O O' : Addr → Prop} {K : PySem.W.Frag} {H : Hp} (s : ∀ a, O' a → O a ∨ ∃ φ, H a = some (.ext φ)) : ∀ {vs : List V} {ds : List D}, IsL B O K H vs ds → noDs ds = true → IsL B O' K H vs ds
  | _, _, .nil, _ => .nil
  | _, _, .cons h r, z => by
    have q := Bool.and_eq_true_iff.mp (by simpa only [HD.noDs] using z)
    exact .cons (Is.noD s h q.1) (IsL.noD s r q.2)
end
def dCallD (L : List Nat) (m : DFn) (da : DA) : DE := fun ρ Xd Q => L.all (fun i => isOwnD ρ[i]?) = true ∧ da ρ Xd fun ds => m ds (fun e => noD e.2 = true ∧ Xd e) fun d => noD d = true ∧ Q d
def dLendD (i : Nat) : DE := fun ρ _ Q => ∃ d, ρ[i]? = some (some (.own (.dct d))) ∧ Q (.dct d)
/-! ### list(own), of a dict: its keys -/
def dListO (i : Nat) : DE := fun ρ _ Q => ∃ kvs, ρ[i]? = some (some (.own (.dct kvs))) ∧ Q (.lst (kvs.map (·.1)))
end
end HD
/-! HE8: sorted texts. -/
namespace HD
open PySem PySem.Spec PyProof.Rows L2
/-! ### the order of texts -/
def leS (x y : Str) : Bool := !ltCps y.cps.toList x.cps.toList
theorem leS_iff {x y : Str} : leS x y = true ↔ x.cps.toList ≤ y.cps.toList := by
  unfold leS
  rw [ltCps_eq, Bool.not_eq_true', decide_eq_false_iff_not]
  exact List.not_lt
theorem leS_tr {x y z : Str} (h1 : leS x y = true) (h2 : leS y z = true) : leS x z = true := leS_iff.mpr (List.le_trans (leS_iff.mp h1) (leS_iff.mp h2))
theorem leS_tot (x y : Str) : (leS x y || leS y x) = true := by
  rw [Bool.or_eq_true]
  rcases List.le_total x.cps.toList y.cps.toList with h | h
  · exact .inl (leS_iff.mpr h)
  · exact .inr (leS_iff.mpr h)
theorem str_ext {x y : Str} (h : x.cps.toList = y.cps.toList) : x = y := by
  obtain ⟨⟨a⟩⟩ := x
  obtain ⟨⟨b⟩⟩ := y
  simp at h
  rw [h]
theorem leS_anti {x y : Str} (h1 : leS x y = true) (h2 : leS y x = true) : x = y := str_ext (List.le_antisymm (leS_iff.mp h1) (leS_iff.mp h2))
/-- the texts in their order -/
def sortS (zs : List Str) : List Str := zs.mergeSort leS
theorem sortS_perm (zs : List Str) : (sortS zs).Perm zs := List.mergeSort_perm zs leS
theorem sortS_pw (zs : List Str) : (sortS zs).Pairwise fun x y => leS x y = true := List.pairwise_mergeSort (le := leS) (fun _ _ _ h1 h2 => leS_tr h1 h2) leS_tot zs
theorem rising_pw : ∀ {p : Str} {l : List Str}, risingS p l = true → (p :: l).Pairwise fun x y => leS x y = true
  | p, [], _ => List.pairwise_singleton _ _
  | p, x :: r, h => by
    have z : leS p x = true ∧ risingS x r = true := by simpa only [risingS, Bool.and_eq_true, leS] using h
    have ih := rising_pw z.2
    refine List.pairwise_cons.mpr ⟨fun y hy => ?_, ih⟩
    rcases List.mem_cons.mp hy with rfl | hy
    · exact z.1
    · exact leS_tr z.1 ((List.pairwise_cons.mp ih).1 y hy)
theorem sorted_pw {l : List Str} (h : sortedS l = true) : l.Pairwise fun x y => leS x y = true := by
  cases l with
  | nil => exact List.Pairwise.nil
  | cons x r => exact rising_pw h
theorem pw_unique {α : Type} {le : α → α → Prop} (anti : ∀ {x y}, le x y → le y x → x = y) : ∀ {a b : List α}, a.Perm b → a.Pairwise le → b.Pairwise le → a = b
  | [], b, p, _, _ => (List.nil_perm.mp p).symm
  | x :: a, [], p, _, _ => absurd p.symm (by simp)
  | x :: a, y :: b, p, h1, h2 => by
    have q1 := List.pairwise_cons.mp h1
    have q2 := List.pairwise_cons.mp h2
    have e : x = y := by
      have hx : x ∈ y :: b := p.mem_iff.mp List.mem_cons_self
      have hy : y ∈ x :: a := p.mem_iff.mpr List.mem_cons_self
      rcases List.mem_cons.mp hx with e | hx
      · exact e
      · rcases List.mem_cons.mp hy with e | hy
        · exact e.symm
        · exact anti (q1.1 y hy) (q2.1 x hx)
    subst e
    rw [pw_unique anti (List.Perm.cons_inv p) q1.2 q2.2]
theorem sortS_of {ys zs : List Str} (p : ys.Perm zs) (h : ys.Pairwise fun x y => leS x y = true) : ys = sortS zs := pw_unique (le := fun x y => leS x y = true) leS_anti (p.trans (sortS_perm zs).symm) h (sortS_pw zs)
/-! ### sorted(x), x a row or a dict of texts -/
theorem sorted_coll {prog : Program} {w : World} {A : Around} {E : Value → Shared → Prop} {s : Shared} {u : Value} {us : List Value} {ks : List Str} {Q : Value → Shared → Prop}
    (hc : ∀ (R : List Value → Shared → Prop) (E : Value → Shared → Prop), (∀ h' tk, (∀ b o, s.heap.get? b = some o → h'.get? b = some o) → R us { s with heap := h', toks := tk }) → wpAny (model prog w) A.in1 (collect u) R E s) (hS : StrsAre us ks) (hz : us.length ≤ sizeLine)
    (h : ∀ (h1 h2 : Heap) (tk : Nat) (out : List Value) (ep : Nat), (∀ b o, s.heap.get? b = some o → h1.get? b = some o) → (∀ b o, h1.get? b = some o → h2.get? b = some o) → h2.get? h1.objs.size = some (seqObj "list" out.toArray ep) → StrsAre out (sortS ks) → Q (.ref h1.objs.size) { s with heap := h2, toks := tk }) :
    wpAny (model prog w) A (call (.builtin "sorted") [u]) Q E s := by
  refine Calls.call_function_entry kind_sorted plain_sorted entry_sorted (args_sorted1 _) ?_
  unfold Builtin.«sorted»
  refine wpAny_bind (m := checkCount "sorted" 1 1 _) (wpAny_pure ?_)
  refine wpAny_bind (hc _ _ fun h' tk hk => ?_)
  refine wpAny_bind (wpAny_newList ?_ hz)
  have hoL : (h'.push (seqObj "list" us.toArray 0)).get? h'.objs.size = some (seqObj "list" us.toArray 0) := Heap.get?_push_size _ rfl
  show wpAny _ _ _ _ _ { s with heap := h'.push (seqObj "list" us.toArray 0), toks := tk }
  refine wpAny_bind (wpAny_holding (wpAny_call_entry slot_list_sort ⟨_, hoL, rfl⟩ entry_list_sort
    (list_sort_treeKAny strKind_oneLt (s := { s with heap := h'.push (seqObj "list" us.toArray 0), toks := tk }) hoL hS.keysOf (fun v₁ v₂ rest e => keyKind_strs (by rw [← e]; exact hS)) hz fun st' hp hs => ⟨_, rfl, ?_⟩) (args_list_sort _)))
  obtain ⟨ys, g1, g2, g3⟩ := sorted_out_str hS hp hs
  obtain ⟨e', he'⟩ := sortedHeap_at (vs := us) (out := (arrOf st').map (·.2)) hoL
  refine wpAny_pure ⟨_, rfl, h h' _ tk ((arrOf st').map (·.2)).toList e' hk (fun b o e => ?_) (by rw [Array.toArray_toList]; exact he') (by rw [← sortS_of g2 (sorted_pw g3)]; exact g1)⟩
  have hb : b < h'.objs.size := Heap.lt_size e
  rw [sortedHeap_old (Nat.ne_of_lt hb) (by rw [size_push']; exact Nat.lt_succ_of_lt hb)]
  exact Heap.get?_push_of_some _ e
section
variable {X : Cx} {F : Fx} {Cl : Str → Addr} {W : WX} {B : Bg}
theorem call_sortX (hcalm : X.calm = true) : CallR X (.builtin "sorted") (fun xs H Q => ∃ (a : Addr) (ks : List Str), xs = [.ref a] ∧ ks.length ≤ sizeLine ∧ (SqL X.K H a (ks.map V.str) ∨ SqT X.K H a (ks.map V.str) ∨ ∃ o es ep, H a = some (dX a o) ∧ o.ExactDict ∧ o.data = .dict es ep ∧ (a == sysModules) = false ∧ Vals (ks.map V.str) (es.toList.map (·.key)) ∧ es.size ≤ sizeLine) ∧
    ∀ p, H p = none → Q (.ref p) (upd H p (.lst ((sortS ks).map V.str)))) := by
  intro pins s σ H xs us Q I r q
  obtain ⟨a, ks, ex, hz, src, q⟩ := q
  subst ex
  obtain ⟨u, eu, rx⟩ := vals1 r
  subst eu
  cases rx
  have fin : ∀ (us : List Value), StrsAre us ks → us.length ≤ sizeLine → (∀ (R : List Value → Shared → Prop) (E : Value → Shared → Prop), (∀ h' tk, (∀ b o, s.heap.get? b = some o → h'.get? b = some o) → R us { s with heap := h', toks := tk }) → wpAny (model X.prog X.w) X.A.in1 (collect (.ref a)) R E s) →
      wpAny (model X.prog X.w) X.A (call (.builtin "sorted") [.ref a]) (fun v s' => ∃ x H', Inv X pins σ H' s' ∧ RelV x v ∧ Q x H') X.xe s := fun us hS hl hc => by
    refine sorted_coll hc hS hl fun h1 h2 tk out ep k1 k2 ho hSo => ?_
    have I1 : Inv X pins σ H { s with heap := h1, toks := tk } := I.kept k1
    have hlen : ((sortS ks).map V.str).length ≤ sizeLine := by rw [List.length_map, (sortS_perm ks).length_eq]; exact hz
    exact ⟨.ref h1.objs.size, upd H h1.objs.size (.lst ((sortS ks).map V.str)), I1.laid (t' := tk) k2 (Nat.le_refl _) (show ObjOk X.prog X.w _ _ _ (.lst ((sortS ks).map V.str)) from ⟨hlen, out, ep, vals_of_strs hSo, ho⟩), rfl, q _ (I1.hok.fresh (Nat.le_refl _))⟩
  rcases src with hs | hs | ⟨o, es, ep, hd, hx, hdt, hsm, hv, he⟩
  · obtain ⟨its, rv, hl, hz2⟩ := I.list hs
    refine fin its rv.strs (by rw [← rv.length]; exact hz2) fun R E hR => ?_
    obtain ⟨ob, h1, h2, n, h3⟩ := hl.isList
    exact wpAny_collect_seq a (.inl rfl) h1 h2 h3 (fun h' hk => by
      have := hR h' s.toks hk
      simpa using this) (by have := rv.length; simp; omega)
  · obtain ⟨its, rv, hl, hz2⟩ := I.tuple hs
    refine fin its rv.strs (by rw [← rv.length]; exact hz2) fun R E hR => ?_
    obtain ⟨ob, h1, h2, n, h3⟩ := (show s.heap.IsTuple a its.toArray from hl)
    exact wpAny_collect_seq a (.inr rfl) h1 h2 h3 (fun h' hk => by
      have := hR h' s.toks hk
      simpa using this) (by have := rv.length; simp; omega)
  · have hgd : s.heap.get? a = some o := (I.hok a _ hd).1
    refine fin (es.toList.map (·.key)) hv.strs (by simp; exact he) fun R E hR => ?_
    refine PySem.W.kdu_collect (A := X.A.in1) (src_x hsm hx hdt) (show X.A.in1.handled = none from I.ok.hd hcalm) hgd he fun h' tk acc hk hacc => ?_
    have e : acc.toList = es.toList.map (·.key) := by
      apply List.ext_getElem?
      intro j
      rw [Array.getElem?_toList, List.getElem?_map, Array.getElem?_toList]
      by_cases hj : j < acc.size
      · obtain ⟨e, h1, h2⟩ := hacc.2 j acc[j] (Array.getElem?_eq_getElem hj)
        rw [Array.getElem?_eq_getElem hj, h1, h2]
        rfl
      · rw [Array.getElem?_eq_none (by omega), Array.getElem?_eq_none (by have := hacc.1; omega)]
        rfl
    rw [e]
    exact hR h' tk hk
/-- sorted of texts -/
def rSort : DR := fun ds Q => ∃ zs : List Str, zs.length ≤ sizeLine ∧ (ds = [.lst (zs.map D.str)] ∨ ds = [.tup (zs.map D.str)] ∨ ∃ vs : List D, vs.length = zs.length ∧ ds = [.dct ((zs.map D.str).zip vs)]) ∧ Q (.lst ((sortS zs).map D.str))
theorem zip_inj_l {α β : Type} : ∀ {a c : List α} {b d : List β}, a.zip b = c.zip d → a.length = b.length → c.length = d.length → a = c ∧ b = d
  | [], [], [], [], _, _, _ => ⟨rfl, rfl⟩
  | _ :: _, _ :: _, _ :: _, _ :: _, h, h1, h2 => by
    simp only [List.zip_cons_cons, List.cons.injEq, Prod.mk.injEq] at h
    obtain ⟨⟨rfl, rfl⟩, h⟩ := h
    obtain ⟨rfl, rfl⟩ := zip_inj_l h (by simpa using h1) (by simpa using h2)
    exact ⟨rfl, rfl⟩
  | [], _, _ :: _, _, _, h1, _ => by simp at h1
  | _ :: _, _, [], _, _, h1, _ => by simp at h1
  | _, [], _, _ :: _, _, _, h2 => by simp at h2
  | _, _ :: _, _, [], _, _, h2 => by simp at h2
  | [], _ :: _, [], _ :: _, h, _, _ => by simp at h
  | _ :: _, [], _ :: _, [], h, _, _ => by simp at h
theorem cSort (hc : X.calm = true) : CallN X B (.builtin "sorted") rSort := by
  refine ⟨_, call_sortX hc, fun O H vs ds Qd Q ob oa hv ⟨zs, hz, src, h⟩ k => ?_⟩
  rcases src with e | e | ⟨ws, hl, e⟩
  · subst e
    obtain ⟨v, rfl, i⟩ := one_of hv
    cases i with
    | lst ha na ra =>
      obtain ⟨e1, e2⟩ := strs_of ra
      subst e1
      exact ⟨_, zs, rfl, hz, .inl (SqL.of ha), fun p hn => k _ h p _ (Ex.new hn) hn (own_new (strs_is fun z hz => e2 z ((sortS_perm zs).mem_iff.mp hz)) hn ob)⟩
  · subst e
    obtain ⟨v, rfl, i⟩ := one_of hv
    cases i with
    | tup ha ra =>
      obtain ⟨e1, e2⟩ := strs_of ra
      subst e1
      exact ⟨_, zs, rfl, hz, .inr (.inl ha), fun p hn => k _ h p _ (Ex.new hn) hn (own_new (strs_is fun z hz => e2 z ((sortS_perm zs).mem_iff.mp hz)) hn ob)⟩
  · subst e
    obtain ⟨v, rfl, i⟩ := one_of hv
    generalize hdd : HD.D.dct ((zs.map D.str).zip ws) = dd at i
    cases i with
    | @dct a o es ep kv vv ks vs' hH nO dq r1 r2 =>
      injection hdd with hdd
      obtain ⟨rfl, rfl⟩ := zip_inj_l hdd (by simp [hl]) (dct_len dq r1 r2)
      obtain ⟨e1, e2⟩ := strs_of r1
      subst e1
      exact ⟨_, zs, rfl, hz, .inr (.inr ⟨o, es, ep, hH, dq.ex, dq.dt, dq.nm, dq.k, dq.sz⟩), fun p hn => k _ h p _ (Ex.new hn) hn (own_new (strs_is fun z hz => e2 z ((sortS_perm zs).mem_iff.mp hz)) hn ob)⟩
    | _ => cases hdd
end
end HD
/-! HE9: a new list by +, tuple targets assigned. -/
namespace HD
open PySem PyProof.Rows L2
section
variable {X : Cx} {F : Fx} {Cl : Str → Addr} {W : WX}
def rCat : D2 := fun x y Q => match x, y with
  | .lst a, .lst b => a.length + b.length ≤ sizeLine ∧ Q (.lst (a ++ b))
  | _, _ => False
end
end HD
/-! HE10: xs[::-1]. -/
namespace HD
open PySem PyProof.Rows L2
section
variable {X : Cx} {F : Fx} {Cl : Str → Addr} {W : WX}
/-- xs[::-1], a list -/
def dRev (de : DE) : DE := fun ρ Xd Q => de ρ Xd fun d => ∃ ds, d = .lst ds ∧ Q (.lst ds.reverse)
end
end HD
/-! HE11: xs.insert(k, y). -/
namespace HD
open PySem PyProof.Rows L2
section
variable {X : Cx} {F : Fx} {Cl : Str → Addr} {W : WX}
def insD (ds : List D) (n : Nat) (d : D) : List D := ds.take n ++ [d] ++ ds.drop n
def dInsert (i : Nat) (dk de : DE) : DS := fun De ρ => ∃ ds, ρ[i]? = some (some (.own (.lst ds))) ∧ dk ρ (De.ex ρ) fun x => de ρ (De.ex ρ) fun d => ∃ n : Int, x = .int n ∧ 0 ≤ n ∧ n < 2 ^ 63 ∧ ds.length < sizeLine ∧ De.nx (ρ.set i (some (.own (.lst (insD ds n.toNat d)))))
end
end HD
/-! HE12: a, b, .. = a row. -/
namespace HD
open PySem PyProof.Rows L2
section
variable {X : Cx} {F : Fx} {Cl : Str → Addr} {W : WX}
def gNs : List Nat → TGs
  | [] => fun xs σ H Q => xs = [] ∧ Q σ H
  | i :: r => fun xs σ H Q => ∃ v t, xs = v :: t ∧ gNs r t (σ.set i (some v)) H Q
def setMany : Rho → List Nat → List D → Rho
  | ρ, i :: r, d :: ds => setMany (ρ.set i (some (.val d))) r ds
  | ρ, _, _ => ρ
/-- x, y, .. = a row of that length -/
def dAsgT (is : List Nat) (de : DE) : DS := fun De ρ => de ρ (De.ex ρ) fun d => ∃ ds, rowOf d = some ds ∧ ds.length = is.length ∧ De.nx (setMany ρ is ds)
end
end HD
/-! HE13: defs that give back new lists and dicts, which their callers may change. -/
namespace HD
open PySem PyProof.Rows L2
def canOwn : D → Bool
  | .lst _ => true
  | .dct _ => true
  | _ => false
/-- a list or dict that comes back is new, and nobody else knows it -/
def Rnew (B : Bg) (O : Addr → Prop) (K : PySem.W.Frag) (H0 : Hp) : D → V → Hp → Prop := fun d v H' => canOwn d = true → ∃ a, v = .ref a ∧ H0 a = none ∧ OwnN B O K H' a d
def fxN (B : Bg) (O : Addr → Prop) (K : PySem.W.Frag) (H : Hp) : Fx := ⟨B, O, K, H, [], Rnew B O K H⟩
section
variable {X : Cx} {F : Fx} {Cl : Str → Addr} {W : WX}
theorem OwnN.sub {B : Bg} {O O' : Addr → Prop} {K : PySem.W.Frag} {H : Hp} {a : Addr} {d : D} (s : ∀ c, O' c → O c) (ob : O' B.b) (h : OwnN B O K H a d) : OwnN B O' K H a d := OwnAt.sub (fun c z => .inl (z.imp (s c) id)) (.inl ob) h
/-- new, or no list and no dict -/
def upM (F : Fx) (Cl : Str → Addr) (W : WX) (de : DE) : TE := fun σ H Q => ∃ ρ Xd Qd, EnvOk F H σ ρ ∧ de ρ Xd Qd ∧ XO F Cl W σ H ρ Xd ∧ ∀ d, Qd d → ∀ v H', Ex F.B H H' → Is F.B (OS F σ ρ) F.K H' v d → Rnew F.B (OS F σ ρ) F.K H d v H' → Q v H'
/-- a plain value: no list, no dict -/
def dPl (de : DE) : DE := fun ρ Xd Q => de ρ Xd fun d => canOwn d = false ∧ Q d
/-! ### calls -/
def spN (w : World) (Cl : Str → Addr) (K : PySem.W.Frag) (m : DFn) : Sp := fun vs H Q E => ∃ (B : Bg) (O : Addr → Prop) (ds : List D) (Xd : Err → Prop) (Qd : D → Prop), B.w = w ∧ O B.b ∧ O B.l ∧ (∀ a, O a → H a ≠ none) ∧ IsL B O K H vs ds ∧ m ds Xd Qd ∧
  (∀ e, Xd e → ∀ dd v H', Ex B H H' → H' dd = some (.xd [(fldOf e.1, v)]) → Is B O K H' v e.2 → E (.ref (Cl e.1)) (some dd) H') ∧ ∀ d, Qd d → ∀ v H', Ex B H H' → Is B O K H' v d → Rnew B O K H d v H' → Q v H'
/-- the name x is a def that does what m says, and gives back new things -/
def HasN (P : Program) (w : World) (K : PySem.W.Frag) (mg : Str → Option Value) (base : Heap) (Cl : Str → Addr) (x : Str) (k : Nat) (m : DFn) : Prop :=
  ∃ (f : Addr) (fd : FuncData) (ps : List Str), mg x = some (.ref f) ∧ PySem.W.keepIn K (.ref f) = true ∧ Binds K fd ps [] ∧ FnOk P w K mg base (L2.CX P w) k f fd ps (spN w Cl K m)
theorem HasN.mono {P : Program} {w : World} {K : PySem.W.Frag} {mg : Str → Option Value} {base : Heap} {x : Str} {k j : Nat} {m : DFn} (h : HasN P w K mg base Cl x k m) (hl : k ≤ j) : HasN P w K mg base Cl x j m := by
  obtain ⟨f, fd, ps, h1, h2, h3, h5⟩ := h
  exact ⟨f, fd, ps, h1, h2, h3, h5.mono hl⟩
/-- what is new may be taken as it is -/
theorem HasN.has {P : Program} {w : World} {K : PySem.W.Frag} {mg : Str → Option Value} {base : Heap} {x : Str} {k : Nat} {m : DFn} (h : HasN P w K mg base Cl x k m) : Has P w K mg base Cl x k m := by
  obtain ⟨f, fd, ps, h1, h2, h3, h5⟩ := h
  exact ⟨f, fd, ps, h1, h2, h3, h5.imp fun vs H Q E ⟨B, O, ds, Xd, Qd, z1, z2, z3, z4, z5, z6, z7, z8⟩ => ⟨B, O, ds, Xd, Qd, z1, z2, z3, z4, z5, z6, z7, fun d hd v H' x i _ => z8 d hd v H' x i⟩⟩
/-! ### statements -/
def slM (d : D) : Sl := if canOwn d then .own d else .val d
/-- x = what is new -/
def dAsgM (i : Nat) (de : DE) : DS := fun De ρ => de ρ (De.ex ρ) fun d => De.nx (ρ.set i (some (slM d)))
/-! ### own things and others alike: x op y with a flat answer -/
def slD : Sl → D
  | .val d => d
  | .own d => d
def dOpAny (r : D2) (i : Nat) (db : DE) : DE := fun ρ Xd Q => ∃ s, ρ[i]? = some (some s) ∧ db ρ Xd fun y => r (slD s) y fun z => flatD z = true ∧ Q z
end
end HD
/-! HE14: is True. -/
namespace HD
open PySem PyProof.Rows L2
section
variable {X : Cx} {B : Bg}
def rIsB : D2 := fun x y Q => ∃ a b, x = .bl a ∧ y = .bl b ∧ Q (.bl (decide (a = b)))
def rIsNotB : D2 := fun x y Q => ∃ a b, x = .bl a ∧ y = .bl b ∧ Q (.bl (!decide (a = b)))
end
end HD
/-! HE15: dict displays, own.get(k, x). -/
namespace HD
open PySem PySem.Spec PyProof.Rows L2
/-- the pairs of a display, keys and values in turns -/
inductive PPs (X : Cx) (F : Fx) (Cl : Str → Addr) (W : WX) : List (Option Expr) → List Expr → DA → Prop
  | nil : PPs X F Cl W [] [] dNil
  | cons {k v : Expr} {ks : List (Option Expr)} {vs : List Expr} {dk dv : DE} {da : DA} (hk : PE X k (upE F Cl W dk)) (hv : PE X v (upE F Cl W dv)) (r : PPs X F Cl W ks vs da) : PPs X F Cl W (some k :: ks) (v :: vs) (dCons dk (dCons dv da))
inductive PairR (B : Bg) (O : Addr → Prop) (K : PySem.W.Frag) (H : Hp) : List (Value × Value) → List D → Prop
  | nil : PairR B O K H [] []
  | cons {uk uv : Value} {yk yv : V} {k v : D} {r : List (Value × Value)} {ds : List D} (rk : RelV yk uk) (rv : RelV yv uv) (ik : Is B O K H yk k) (iv : Is B O K H yv v) (t : PairR B O K H r ds) : PairR B O K H ((uk, uv) :: r) (k :: v :: ds)
theorem PairR.ex {B : Bg} {O : Addr → Prop} {K : PySem.W.Frag} {H H' : Hp} {us : List (Value × Value)} {ds : List D} (h : PairR B O K H us ds) (x : Ex B H H') (ob : O B.b) : PairR B O K H' us ds := by
  induction h with
  | nil => exact .nil
  | cons rk rv ik iv _ ih => exact .cons rk rv (ik.ex x ob) (iv.ex x ob) ih
theorem PairR.mut {B : Bg} {O : Addr → Prop} {K : PySem.W.Frag} {H : Hp} {a : Addr} {o o' : HO} {us : List (Value × Value)} {ds : List D} (h : PairR B O K H us ds) (op : O a) (hH : H a = some o) (hm : MutO o) (nb : a ≠ B.b) (nl : a ≠ B.l) : PairR B O K (upd H a o') us ds := by
  induction h with
  | nil => exact .nil
  | cons rk rv ik iv _ ih => exact .cons rk rv (ik.mut op hH hm nb nl) (iv.mut op hH hm nb nl) ih
/-- the keys of a row of pairs -/
def keysL : List D → Prop
  | k :: _ :: r => keyOk k ∧ keysL r
  | _ => True
def foldP : List D → List (D × D) → List (D × D)
  | k :: v :: r, acc => foldP r (setD acc k v)
  | _, acc => acc
def dDct (da : DA) : DE := fun ρ Xd Q => da ρ Xd fun ds => keysL ds ∧ Q (.dct (foldP ds []))
section
variable {X : Cx} {F : Fx} {Cl : Str → Addr} {W : WX}
theorem pairs_run {keys : List (Option Expr)} {vals : List Expr} {da : DA} (h : PPs X F Cl W keys vals da) : ∀ {pos : Pos} {pins : List (Addr × Obj)} {s : Shared} {σ : L2.St} {H : Hp} {ρ : Rho} {Xd : Err → Prop} {Qd : List D → Prop} {Q : List (Value × Value) → Shared → Prop}, Inv X pins σ H s → EnvOk F H σ ρ → da ρ Xd Qd → XO F Cl W σ H ρ Xd →
    (∀ ds, Qd ds → ∀ us H' s', Inv X pins σ H' s' → Ex F.B H H' → PairR F.B (OS F σ ρ) F.K H' us ds → us.length = keys.length → Q us s') → wpAny (model X.prog X.w) X.A (evalPairs (pairTrees keys vals X.env pos)) Q X.xe s := by
  induction h with
  | nil => exact fun I env hd xo k => pairTrees_nil_walk (k _ hd [] _ _ I (Ex.refl _ _) .nil rfl)
  | @cons ke ve ks vs dk dv da hk hv r ih =>
    intro pos pins s σ H ρ Xd Qd Q I env hd xo k
    refine pairTrees_cons_walk (thn (hk.run pins s σ H (fun y H1 => ∃ kd, Ex F.B H H1 ∧ Is F.B (OS F σ ρ) F.K H1 y kd ∧ (dCons dv da) ρ Xd fun ds => Qd (kd :: ds)) I ⟨ρ, _, _, env, hd, xo, fun d hd v H1 x1 iv => ⟨d, x1, iv, hd⟩⟩) fun uk s1 ⟨yk, H1, I1, rk, kd, x1, ik, q1⟩ => ?_)
    refine thn (hv.run pins s1 σ H1 (fun y H2 => ∃ vd, Ex F.B H1 H2 ∧ Is F.B (OS F σ ρ) F.K H2 y vd ∧ da ρ Xd fun ds => Qd (kd :: vd :: ds)) I1 ⟨ρ, _, _, env.ex' x1, q1, xo.ex x1, fun d hd v H2 x2 iv => ⟨d, x2, iv, hd⟩⟩) fun uv s2 ⟨yv, H2, I2, rv, vd, x2, iv, q2⟩ => ?_
    refine ih I2 ((env.ex' x1).ex' x2) q2 ((xo.ex x1).ex x2) fun ds hds us H' s' I' x3 pr hl => ?_
    exact k _ hds _ H' s' I' ((x1.trans x2).trans x3) (.cons rk rv ((ik.ex x2 env.osb).ex x3 env.osb) (iv.ex x3 env.osb) pr) (by simp [hl])
theorem store_run {D : Addr} {ρ : Rho} {σ : L2.St} {pins : List (Addr × Obj)} {E : Value → Shared → Prop} (hu : X.A.units + 65 < cLine) (hK : X.K = F.K) (hw : X.w = F.B.w) (h0 : F.H0 D = none) (nb : D ≠ F.B.b ∧ D ≠ F.B.l) {H1 : Hp} (hD : H1 D = none) : ∀ (us : List (Value × Value)) (ds : List HD.D) {H : Hp} {s : Shared} {o : Obj} {es : Array DictEntry} {ep : Nat} {kv vv : List V} {ks ws : List HD.D} {Q : PUnit → Shared → Prop},
    Inv X pins σ H s → EnvOk (F.bar D) H σ ρ → Ex F.B H1 H → H D = some (dX D o) → DctOk F.B.w D o es ep kv vv ks → IsL F.B (OS (F.bar D) σ ρ) F.K H kv ks → IsL F.B (OS (F.bar D) σ ρ) F.K H vv ws → PairR F.B (OS (F.bar D) σ ρ) F.K H us ds → keysL ds → ks.length + us.length < sizeLine →
    (∀ H' s', Inv X pins σ H' s' → Ex F.B H1 H' → (∃ o es ep kv vv ks' ws', H' D = some (dX D o) ∧ DctOk F.B.w D o es ep kv vv ks' ∧ IsL F.B (OS (F.bar D) σ ρ) F.K H' kv ks' ∧ IsL F.B (OS (F.bar D) σ ρ) F.K H' vv ws' ∧ foldP ds (ks.zip ws) = ks'.zip ws') → Q PUnit.unit s') →
    wpAny (model X.prog X.w) X.A (storeAll D us) Q E s := by
  intro us
  induction us with
  | nil =>
    intro ds H s o es ep kv vv ks ws Q I env x1 hH dq ik iw pr hk hz k
    cases pr
    unfold storeAll
    rw [List.forIn_nil]
    exact wpAny_pure (k H s I x1 ⟨o, es, ep, kv, vv, ks, ws, hH, dq, ik, iw, rfl⟩)
  | cons u r ih =>
    intro ds H s o es ep kv vv ks ws Q I env x1 hH dq ik iw pr hk hz k
    cases pr with
    | @cons uk uv yk yv kd vd _ ds rk rv jk jv t =>
      rw [List.length_cons] at hz
      unfold storeAll
      rw [List.forIn_cons]
      have hzz : es.size < sizeLine := by
        have h1 := dq.k.length
        rw [List.length_map] at h1
        have h2 := ik.length
        simp at h1
        omega
      refine wpAny_bind (wpAny_bind (d_dictSetX (X := X) (by omega) I hH (by rw [hw]; exact dq) (by rw [hK]; exact keysRd_of ik dq.ok) hzz (by rw [hK]; exact jk.key hk.1) hk.1.1 hk.1.2 rk fun h' o' ep' n g' I' => wpAny_pure ?_))
      obtain ⟨kv', vv', ks', ws', q1, q2, q3, q4⟩ := put_dct dq ik iw hk.1 jk jv rk rv (by rw [← hw]; exact g')
      have hm : MutO (dX D o) := .inr (.inl ⟨_, rfl⟩)
      have op : OS (F.bar D) σ ρ D := .inl (.inr rfl)
      refine ih ds I' (env.barMut hH hm h0 nb.1 nb.2) (x1.mutN hD nb.1 nb.2) upd_same q1 (q2.mut op hH hm nb.1 nb.2) (q3.mut op hH hm nb.1 nb.2) (t.mut op hH hm nb.1 nb.2) hk.2 ?_ fun H' s' I2 x2 ⟨o2, es2, ep2, kv2, vv2, ks2, ws2, z1, z2, z3, z4, z5⟩ => k H' s' I2 x2 ⟨o2, es2, ep2, kv2, vv2, ks2, ws2, z1, z2, z3, z4, ?_⟩
      · have l1 : ks'.length ≤ ks.length + 1 := by
          have e := congrArg List.length q4
          have hlen := dct_len dq ik iw
          have hlen' := dct_len q1 q2 q3
          rw [List.length_zip, ← hlen', Nat.min_self] at e
          have : (setD (ks.zip ws) kd vd).length ≤ (ks.zip ws).length + 1 := by
            unfold setD
            split <;> simp
          rw [List.length_zip, ← hlen, Nat.min_self] at this
          omega
        omega
      · rw [← z5, q4]
        rfl
theorem xo_bar {σ : L2.St} {H : Hp} {ρ : Rho} {Xd : Err → Prop} {D : Addr} {o : HO} (env : EnvOk F H σ ρ) (hD : H D = none) (h : XO F Cl W σ H ρ Xd) : XO (F.bar D) Cl W σ (upd H D o) ρ Xd := fun e he dd v H' x h1 h2 =>
  h e he dd v H' ((Ex.new hD).trans x) h1 (h2.sub (fun c z => .inl (z.elim (fun z => .inl (.inl z)) .inr)) env.osb)
/-- {k: v, ..} -/
theorem nDict {keys : List (Option Expr)} {vals : List Expr} {da : DA} {pos : Pos} (hu : X.A.units + 65 < cLine) (h : ∀ D, PPs X (F.bar D) Cl W keys vals da) (hall : keys.all (·.isSome) = true := by rfl) (hl : keys.length = vals.length := by rfl) (h0 : keys ≠ [] := by exact List.cons_ne_nil _ _) (hlen : keys.length ≤ 15 := by decide) (hK : X.K = F.K := by rfl) (hw : X.w = F.B.w := by rfl) :
    PE X (.Dict keys vals pos) (upN F Cl W (dDct da)) := ⟨fun pins s σ H Q I ⟨ρ, Xd, Qd, env, hd, xo, k⟩ => by
  have hn := I.hok.fresh (Nat.le_refl s.heap.objs.size)
  have hsm : (s.heap.objs.size == sysModules) = false := beq_eq_false_iff_ne.mpr (Ne.symm (Nat.ne_of_lt I.big))
  have I1 := I.laid (a := s.heap.objs.size) (o := dX s.heap.objs.size { cls := .type "dict", data := .dict #[] }) (t' := s.toks) (fun _ _ q => Heap.get?_push_of_some _ q) (Nat.le_refl _) (dX_ok (Heap.get?_push_size _ rfl))
  have nb : s.heap.objs.size ≠ F.B.b ∧ s.heap.objs.size ≠ F.B.l := ⟨fun z => env.oa F.B.b env.ob (by rw [← z]; exact hn), fun z => env.oa F.B.l env.ol (by rw [← z]; exact hn)⟩
  refine wpAny_Dict_any hall hl h0 hlen (pairs_run (h s.heap.objs.size) I1 (env.bar hn) hd (xo_bar env hn xo) fun ds ⟨hk, hq⟩ us H' s' I' x pr hl' => ?_)
  have b1 := (env.bar (o := dX s.heap.objs.size { cls := .type "dict", data := .dict #[] }) hn).ex' x
  refine store_run (F := F) (ρ := ρ) hu hK hw (env.ex.free hn) nb hn us ds I' b1 ((Ex.new hn).trans x) (x.at upd_same nb.1) (empty_ok hsm) .nil .nil pr hk (ws := []) ?_ fun H2 s2 I2 x2 ⟨o, es, ep, kv, vv, ks, ws, z1, z2, z3, z4, z5⟩ => ?_
  · rw [hl']
    exact Nat.lt_of_le_of_lt (show [].length + keys.length ≤ 15 by simpa using hlen) (by decide)
  · refine ⟨.ref s.heap.objs.size, H2, I2, rfl, k _ hq _ H2 x2 hn ?_⟩
    have z5 : foldP ds [] = ks.zip ws := z5
    rw [z5]
    have back : ∀ c, (OS F σ ρ c ∨ c = s.heap.objs.size) → OS (F.bar s.heap.objs.size) σ ρ c ∨ H2 c = none := fun c z => .inl (z.elim (fun z => z.elim (fun z => .inl (.inl z)) .inr) fun z => .inl (.inr z))
    exact .dct z1 z2 (z3.sub back (.inl env.osb)) (z4.sub back (.inl env.osb))⟩
/-- own.get(k, x) -/
def dGetO (i : Nat) (dk dx : DE) : DE := fun ρ Xd Q => ∃ kvs, ρ[i]? = some (some (.own (.dct kvs))) ∧ dk ρ Xd fun k => dx ρ Xd fun x => rGet (.dct kvs) k x Q
end
end HD
/-! HE16: d.get(k), min, own[i] = x. -/
namespace GD
open PySem PySem.Spec PyProof.Rows L2
section
variable {prog : Program} {w : World} {A : Around} {E : Value → Shared → Prop} {s : Shared} {d : Addr} {k : PyData} {key : Value} {o : Obj} {es : Array DictEntry} {ep : Nat} {ks : List PyData}
end
end GD
namespace HD
open PySem PySem.Spec PyProof.Rows L2
section
variable {X : Cx} {F : Fx} {Cl : Str → Addr} {W : WX}
/-- d.get(k) -/
def dGet1 (dd dk : DE) : DE := fun ρ Xd Q => dd ρ Xd fun d => (∃ kvs, d = .dct kvs) ∧ dk ρ Xd fun k => rGet d k .non Q
/-- own.get(k) -/
def dGetO1 (i : Nat) (dk : DE) : DE := fun ρ Xd Q => ∃ kvs, ρ[i]? = some (some (.own (.dct kvs))) ∧ dk ρ Xd fun k => rGet (.dct kvs) k .non Q
end
section
variable {X : Cx} {B : Bg}
def rMin : DR := fun ds Q => ∃ i j, ds = [.int i, .int j] ∧ Q (.int (if j < i then j else i))
end
section
variable {X : Cx} {F : Fx} {Cl : Str → Addr} {W : WX}
/-- own[i] = v, a list -/
def dPutL (i : Nat) (dk dv : DE) : DS := fun De ρ => ∃ ds, ρ[i]? = some (some (.own (.lst ds))) ∧ dv ρ (De.ex ρ) fun v => dk ρ (De.ex ρ) fun k => ∃ n j, k = .int n ∧ ixN ds.length n = some j ∧ De.nx (ρ.set i (some (.own (.lst (ds.set j v)))))
end
end HD
/-! HE17: tuple(own), a ** b. -/
namespace HD
open PySem PySem.Spec PyProof.Rows L2
section
variable {X : Cx} {F : Fx} {Cl : Str → Addr} {W : WX}
/-- tuple(own), of a list -/
def dTupO (i : Nat) : DE := fun ρ _ Q => ∃ ds, ρ[i]? = some (some (.own (.lst ds))) ∧ Q (.tup ds)
abbrev rPow : D2 := rInts CPow fun i j => .int (i ^ j.toNat)
end
end HD
/-! HE18: max of a tuple of ints, t[::-1] of a tuple, (x,) * n. -/
namespace PySem
open PyProof.Rows
section
variable {prog : Program} {w : World} {A : Around} {E : Value → Shared → Prop} {s : Shared} {l : Addr} {xs : Array (Int × Tok)}
end
end PySem
namespace L2
open PySem PySem.Spec PyProof.Rows
section
variable {prog : Program} {w : World} {A : Around} {E : Value → Shared → Prop} {s : Shared} {l : Addr} {Q : Value → Shared → Prop} {its : List Value} {ns : List Int}
end
section
variable {X : Cx}
def rMaxT (K : PySem.W.Frag) : List V → Hp → VK → Prop := fun vs H Q => ∃ (a : Addr) (ns : List Int), vs = [V.ref a] ∧ SqT K H a (ns.map V.int) ∧ 0 < ns.length ∧ ∀ m, m ∈ ns → (∀ y, y ∈ ns → y ≤ m) → Q (.int m) H
end
end L2
namespace HD
open PySem PySem.Spec PyProof.Rows L2
section
variable {X : Cx} {F : Fx} {Cl : Str → Addr} {W : WX} {B : Bg}
/-- max of a tuple of ints -/
def rMaxT : DR := fun ds Q => ∃ ns : List Int, ds = [.tup (ns.map D.int)] ∧ 0 < ns.length ∧ ∀ m, m ∈ ns → (∀ y ∈ ns, y ≤ m) → Q (.int m)
end
end HD
namespace HT
open PySem PySem.Spec PyProof.Rows L2
section
variable {prog : Program} {w : World} {A : Around} {E : Value → Shared → Prop} {s : Shared}
end
end HT
namespace L2
open PySem PySem.Spec PyProof.Rows
section
variable {X : Cx}
def tRevT (K : PySem.W.Frag) (te : TE) : TE := fun σ H Q => te σ H fun x H1 => ∃ a xs, x = .ref a ∧ SqT K H1 a xs ∧ ∀ p, H1 p = none → Q (.ref p) (upd H1 p (.tup xs.reverse))
end
end L2
namespace HD
open PySem PySem.Spec PyProof.Rows L2
section
variable {X : Cx} {F : Fx} {Cl : Str → Addr} {W : WX} {B : Bg}
/-- t[::-1], a tuple -/
def dRevT (de : DE) : DE := fun ρ Xd Q => de ρ Xd fun d => ∃ ds, d = .tup ds ∧ Q (.tup ds.reverse)
end
end HD
namespace L2
open PySem PySem.Spec PyProof.Rows
section
variable {X : Cx}
def rRepW (K : PySem.W.Frag) : R2 := fun x y H Q => ∃ l k xs, x = .ref l ∧ y = .int k ∧ SqT K H l xs ∧ xs ≠ [] ∧ 2 ≤ k ∧ k ≤ 100000 ∧ xs.length ≤ 10 ∧ ∀ p, H p = none → Q (.ref p) (upd H p (.tup (List.replicate k.toNat xs).flatten))
end
end L2
namespace HD
open PySem PySem.Spec PyProof.Rows L2
section
variable {X : Cx} {F : Fx} {Cl : Str → Addr} {W : WX} {B : Bg}
/-- t * n, a tuple -/
def rRepT : D2 := fun x y Q => ∃ k : Int, ∃ ds, x = .tup ds ∧ y = .int k ∧ ds ≠ [] ∧ 2 ≤ k ∧ k ≤ 100000 ∧ ds.length ≤ 10 ∧ Q (.tup (List.replicate k.toNat ds).flatten)
end
end HD
/-! GS1: sets of texts of any number below the bound: set(row), add, len, sorted. -/
namespace GS
open PySem PySem.Spec PyProof.Rows L2
def txt (e : Int × Value) : Str := match e.2 with | .str k _ => k | _ => Str.empty
def TxtE (P : Program) (w : World) (e : Int × Value) : Prop := ∃ (k : Str) (u : Tok), e.2 = .str k u ∧ e.1 = (strKind P w).hash k
/-- a set of texts: S its members, n their number -/
def TxtSet (P : Program) (w : World) (g : Heap) (q : Addr) (S : Str → Bool) (n : Nat) : Prop :=
  ∃ ob es ep tb, g.get? q = some ob ∧ ob.ExactSet ∧ ob.data = .set es ep tb ∧ (∀ e ∈ es.toList, TxtE P w e) ∧ (es.toList.map txt).Nodup ∧ (∀ k, S k = true ↔ k ∈ es.toList.map txt) ∧
    es.size < scanBound ∧ tb.fits es.size = true ∧ es.size = n ∧ Ris tb.place.toList ∧ (w.params.followText "set-order" = true ∨ tb.led = true)
section
variable {P : Program} {w : World} {g g' : Heap} {q : Addr} {S : Str → Bool} {n : Nat}
theorem TxtSet.keep (R : TxtSet P w g q S n) (kp : ∀ ob, g.get? q = some ob → g'.get? q = some ob) : TxtSet P w g' q S n := by
  obtain ⟨ob, es, ep, tb, h0, rest⟩ := R
  exact ⟨ob, es, ep, tb, kp ob h0, rest⟩
theorem TxtSet.same {S' : Str → Bool} (R : TxtSet P w g q S n) (e : ∀ k, S' k = S k) : TxtSet P w g q S' n := by
  have z : S' = S := funext e
  rw [z]; exact R
theorem txt_elems {l : List (Int × Value)} (hl : ∀ e ∈ l, TxtE P w e) : ElemsOf (strKind P w) l := fun e he => by
  obtain ⟨k, u, e1, e2⟩ := hl e he
  exact ⟨⟨k, by rw [e1]; exact strKind_is P w k u, e2⟩, by rw [e1] <;> rfl⟩
theorem txt_is {e : Int × Value} (h : TxtE P w e) (k : Str) : (strKind P w).is k e.2 = true ↔ txt e = k := by
  obtain ⟨k0, u, e1, _⟩ := h
  unfold txt
  rw [e1]
  constructor
  · intro z
    obtain ⟨t, zt⟩ := Value.isStrOf_shape (show Value.isStrOf k (.str k0 u) = true from z)
    injection zt
  · intro z
    have z : k0 = k := z
    subst z
    exact strKind_is P w k0 u
theorem txt_mem {l : List (Int × Value)} (hl : ∀ e ∈ l, TxtE P w e) (k : Str) : k ∈ l.map txt ↔ ∃ e ∈ l, (strKind P w).is k e.2 = true := by
  rw [List.mem_map]
  exact ⟨fun ⟨e, he, z⟩ => ⟨e, he, (txt_is (hl e he) k).2 z⟩, fun ⟨e, he, z⟩ => ⟨e, he, (txt_is (hl e he) k).1 z⟩⟩
end
section
variable {P : Program} {w : World} {A : Around} {E : Value → Shared → Prop} {s : Shared} {q : Addr} {S : Str → Bool} {n : Nat}
theorem put_at {g : Heap} {ob : Obj} {es es' : Array (Int × Value)} {ep : Nat} {tb tb' : SetTable} (h0 : g.get? q = some ob) (hd : ob.data = .set es ep tb) :
    (g.update q (Obj.putSet es' tb')).get? q = some { ob with data := .set es' (ep + 1) tb' } := by
  have z := Heap.get?_update_self (Obj.putSet es' tb') h0 (by rw [putSet_of es' tb' hd]; rfl)
  rwa [putSet_of es' tb' hd] at z
theorem add_end {f : Bool → Sem Unit} (hf : ∀ (c : Bool) (s1 : Shared) (Q1 : Unit → Shared → Prop), Q1 () s1 → wpAny (model P w) A (f c) Q1 E s1)
    {ob : Obj} {es : Array (Int × Value)} {ep : Nat} {tb : SetTable} (h0 : s.heap.get? q = some ob) (hx : ob.ExactSet) (hd : ob.data = .set es ep tb)
    {es1 : Array (Int × Value)} {t2 : SetTable} {S' : Str → Bool} (a1 : ∀ e ∈ es1.toList, TxtE P w e) (a2 : (es1.toList.map txt).Nodup) (a3 : ∀ k, S' k = true ↔ k ∈ es1.toList.map txt)
    (a4 : es1.size < scanBound) (a5 : t2.fits es1.size = true) (a6 : Ris t2.place.toList) (a7 : w.params.followText "set-order" = true ∨ t2.led = true) {dm : Bool} {R : Option Bool → Shared → Prop}
    (hR : ∀ g', Heap.SameBut q s.heap g' → TxtSet P w g' q S' es1.size → R (some true) { s with heap := g' }) :
    wpAny (model P w) A (do
        storeSet q es1 t2
        if (!dm && t2.tooFull) = true then do
            f (relayAll t2 es1 (SetTable.grown es1.size)).2.2
            storeSet q (relayAll t2 es1 (SetTable.grown es1.size)).1 (relayAll t2 es1 (SetTable.grown es1.size)).2.1
            pure (some true)
          else pure (some true)) R E s := by
  refine wpAny_bind (wpAny_storeSet_of h0 hd ?_ (fits_of_scanBound a4))
  have h1 := put_at (es' := es1) (tb' := t2) h0 hd
  have sb := Heap.SameBut.update s.heap q (Obj.putSet es1 t2)
  split
  · have b1 := relayAll_perm t2 es1 (SetTable.grown es1.size)
    have b2 := relayAll_fits t2 es1 (SetTable.grown es1.size)
    have b3 := relayAll_ris t2 es1 (SetTable.grown es1.size)
    have b4 := relayAll_led t2 es1 (SetTable.grown es1.size)
    generalize relayAll t2 es1 (SetTable.grown es1.size) = zz at b1 b2 b3 b4 ⊢
    obtain ⟨es2, t3, gv⟩ := zz
    dsimp only at b1 b2 b3 b4 ⊢
    have sz : es2.size = es1.size := by rw [← Array.length_toList, b1.length_eq, Array.length_toList]
    have sb2 : es2.size < scanBound := by rw [sz]; exact a4
    refine wpAny_bind (hf _ _ _ ?_)
    refine wpAny_bind (wpAny_storeSet_of h1 rfl ?_ (fits_of_scanBound sb2))
    have h2 := put_at (es' := es2) (tb' := t3) h1 rfl
    refine wpAny_pure (hR _ (sb.trans (Heap.SameBut.update _ q _)) ?_)
    exact ⟨_, es2, _, t3, h2, hx, rfl, fun e he => a1 e (b1.mem_iff.mp he), (b1.map txt).nodup_iff.mpr a2, fun k => (a3 k).trans (b1.map txt).mem_iff.symm, sb2, b2, sz, b3,
      a7.imp id fun z => by rw [b4]; exact z⟩
  · exact wpAny_pure (hR _ sb ⟨_, es1, _, t2, h1, hx, rfl, a1, a2, a3, a4, a5, rfl, a6, a7⟩)
theorem add_hashed {k : Str} {u : Tok} {Q : Bool → Shared → Prop} (R : TxtSet P w s.heap q S n) (room : n + 1 < scanBound)
    (hQ : ∀ g', Heap.SameBut q s.heap g' → TxtSet P w g' q (fun j => S j || decide (j = k)) (if S k = true then n else n + 1) → Q (!S k) { s with heap := g' }) :
    wpAny (model P w) A (setAddHashed q (.str k u) ((strKind P w).hash k)) Q E s := by
  obtain ⟨ob, es, ep, tb, h0, hx, hd, a1, a2, a3, a4, a5, a6, a7, a8⟩ := R
  have ky : (strKind P w).is k (.str k u) = true := strKind_is P w k u
  have sc : (Value.str k u).scannable = true := rfl
  have el : ElemsOf (strKind P w) es.toList := txt_elems a1
  unfold setAddHashed setAddHashedIn
  refine wpAny_holding (wpAny_bind (wpAny_setState_of h0 hd a5 ?_))
  dsimp only
  rw [byScan_of sc a4 el]
  simp only [↓reduceIte]
  unfold setAddByScan
  refine wpAny_bind ?_
  refine wpAny_bind (wpAny_rule ?_)
  refine wpAny_bind (wpAny_setScan_of ky h0 hd a5 el ?_)
  cases fi : List.findIdx? (fun e => (strKind P w).is k e.2) es.toList with
  | some j =>
    dsimp only
    obtain ⟨hj, pj, _⟩ := List.findIdx?_eq_some_iff_getElem.mp fi
    have yes : S k = true := (a3 k).2 ((txt_mem (P := P) (w := w) a1 k).2 ⟨es.toList[j], List.getElem_mem hj, pj⟩)
    refine wpAny_pure (wpAny_pure ?_)
    have z := hQ s.heap (Heap.SameBut.refl q s.heap) ⟨ob, es, ep, tb, h0, hx, hd, a1, a2, fun i => by
      rw [Bool.or_eq_true, decide_eq_true_eq, ← a3 i]
      exact ⟨fun z => z.elim id (fun e => e ▸ yes), .inl⟩, a4, a5, by rw [if_pos yes]; exact a6, a7, a8⟩
    rw [yes] at z
    exact z
  | none =>
    dsimp only
    have nk : k ∉ es.toList.map txt := fun z => by
      obtain ⟨e, he, y⟩ := (txt_mem (P := P) (w := w) a1 k).1 z
      have c := List.findIdx?_eq_none_iff.mp fi e he
      rw [y] at c
      cases c
    have no : S k = false := by
      cases y : S k with
      | false => rfl
      | true => exact absurd ((a3 k).1 y) nk
    have gw : ∀ (c : Bool) {s1 : Shared} {Q1 : Unit → Shared → Prop}, Q1 () s1 → wpAny (model P w) A (match c with | true => rule "set.scan.the-table-gave-way" | false => pure ()) Q1 E s1 :=
      fun c s1 Q1 z => by cases c <;> first | exact wpAny_pure z | exact wpAny_rule z
    have b1 := layNew_perm tb es ((strKind P w).hash k) (.str k u)
    have b2 := layNew_fits tb es ((strKind P w).hash k) (.str k u)
    have b3 := layNew_ris tb es ((strKind P w).hash k) (.str k u) a7
    have b4 := layNew_led tb es ((strKind P w).hash k) (.str k u)
    generalize layNew tb es ((strKind P w).hash k) (.str k u) = zz at b1 b2 b3 b4 ⊢
    obtain ⟨es1, t1, dm, gv⟩ := zz
    dsimp only at b1 b2 b3 b4 ⊢
    rw [Array.toList_push] at b1
    have c1 : es1.toList.Perm (((strKind P w).hash k, Value.str k u) :: es.toList) := b1.trans (List.perm_append_singleton _ _)
    have c2 : (es1.toList.map txt).Perm (k :: es.toList.map txt) := c1.map txt
    have d1 : ∀ e ∈ es1.toList, TxtE P w e := fun e he => by
      rcases List.mem_cons.mp (c1.mem_iff.mp he) with z | z
      · rw [z]; exact ⟨k, u, rfl, rfl⟩
      · exact a1 e z
    have d2 : (es1.toList.map txt).Nodup := c2.nodup_iff.mpr (List.nodup_cons.mpr ⟨nk, a2⟩)
    have d3 : ∀ i, (S i || decide (i = k)) = true ↔ i ∈ es1.toList.map txt := fun i => by
      rw [Bool.or_eq_true, decide_eq_true_eq, a3 i, c2.mem_iff, List.mem_cons]
      exact Or.comm
    have sz : es1.size = n + 1 := by rw [← Array.length_toList, c1.length_eq, List.length_cons, Array.length_toList, a6]
    have d4 : es1.size < scanBound := by rw [sz]; exact room
    have d5 : w.params.followText "set-order" = true ∨ t1.led = true := a8.imp id fun z => by rw [b4]; exact z
    have fin : ∀ g', Heap.SameBut q s.heap g' → TxtSet P w g' q (fun j => S j || decide (j = k)) es1.size → Q true { s with heap := g' } := fun g' sb r => by
      have z := hQ g' sb
      rw [no] at z
      rw [sz] at r
      exact z r
    refine wpAny_bind (gw _ ?_)
    split
    · refine wpAny_bind ?_
      rw [hashByValue_scannable 8 sc]
      refine wpAny_pure ?_
      refine add_end ?_ h0 hx hd d1 d2 d3 d4 ?_ ?_ ?_ ?_
      · intro c s1 Q1 z; cases c <;> first | exact wpAny_pure z | exact wpAny_rule z
      · first | (split <;> first | exact b2 | exact SetTable.fits_plain_off b2) | exact b2
      · first | (split <;> exact b3) | exact b3
      · first | (split <;> exact d5) | exact d5
      · intro g' sb r; dsimp only; exact wpAny_pure (fin g' sb r)
    · refine wpAny_bind (wpAny_pure ?_)
      simp only [↓reduceIte]
      refine add_end ?_ h0 hx hd d1 d2 d3 d4 b2 b3 d5 ?_
      · intro c s1 Q1 z; cases c <;> first | exact wpAny_pure z | exact wpAny_rule z
      · intro g' sb r; dsimp only; exact wpAny_pure (fin g' sb r)
theorem new_at {g : Heap} (h0 : g.get? q = some { cls := .type "set", dict := none, data := .set #[] 0 (.fresh 0 0 (!w.params.followText "set-order")) }) : TxtSet P w g q (fun _ => false) 0 :=
  ⟨_, #[], 0, _, h0, ⟨rfl, rfl, rfl⟩, rfl, (fun e he => by simp at he), (by simp), (fun k => by simp), (by decide), (by rfl), rfl, List.Pairwise.nil, by
    show _ ∨ (!w.params.followText "set-order") = true
    cases w.params.followText "set-order"
    · exact .inr rfl
    · exact .inl rfl⟩
end
section
variable {P : Program} {w : World} {A : Around} {E : Value → Shared → Prop} {s : Shared}
theorem fill {I : Addr} {fp wr : List Addr} {G : Array GenState → Array GenState → Prop} {n : Nat} {Pv : Nat → Value → Prop} {St : Nat → Shared → Prop} {R : Result → Shared → Prop}
    (W : WalksS P w A.in1 I fp wr G n Pv St) (Z : Addr) (hZ : Z ∉ fp) (ks : List Str) (hn : n = ks.length) (hb : ks.length + 1 < scanBound) (hval : ∀ i v, Pv i v → ∃ k t, ks[i]? = some k ∧ v = .str k t) :
    ∀ (m i : Nat) (s : Shared), n - i = m → i ≤ n → St i s → (∃ c, c ≤ i ∧ TxtSet P w s.heap Z (fun j => decide (j ∈ ks.take i)) c) →
      (∀ s' c, Moved (Z :: wr) G s s' → TxtSet P w s'.heap Z (fun j => decide (j ∈ ks)) c → R (.ok (.ret .none)) s') →
      codeAny (model P w) A (.builtin "set.update.loop" ⟨[.ref Z, .ref I], []⟩) R s := by
  have hZw : Z ∉ wr := fun h => hZ (W.sub _ h)
  have sub : ∀ b ∈ wr, b ∈ Z :: wr := fun b hb => List.mem_cons_of_mem _ hb
  intro m
  induction m with
  | zero =>
    intro i s e0 hi hst ⟨c, hc, hS⟩ hR
    have hin : i = n := by omega
    subst hin
    refine codeAny_builtin F.entry_set_update_loop ?_
    rw [Around.under_plainId F.plain_set_update_loop _]
    show wpAny _ A.in1 (pyNext (.ref I) >>= _) _ _ s
    refine wpAny_bind (W.done s _ _ hst fun s' mv => ?_)
    show wpAny _ A.in1 (ret Value.none) _ _ s'
    rw [show ks.take i = ks from List.take_of_length_le (by omega)] at hS
    exact wpAny_pure (hR s' c (mv.mono sub) (hS.keep fun o e => mv.heap Z o hZw e))
  | succ m ih =>
    intro i s e0 hi hst ⟨c, hc, hS⟩ hR
    have lt : i < n := by omega
    refine codeAny_builtin F.entry_set_update_loop ?_
    rw [Around.under_plainId F.plain_set_update_loop _]
    show wpAny _ A.in1 (pyNext (.ref I) >>= _) _ _ s
    refine wpAny_bind (W.item i s _ _ lt hst fun v s' hP hst' mv => ?_)
    obtain ⟨z, t, hz, rfl⟩ := hval i v hP
    have hS1 : TxtSet P w s'.heap Z (fun j => decide (j ∈ ks.take i)) c := hS.keep fun o e => mv.heap Z o hZw e
    show wpAny _ A.in1 (holding [Value.str z t] (setAdd Z (.str z t)) >>= _) _ _ s'
    refine wpAny_bind (wpAny_holding ?_)
    unfold setAdd
    refine wpAny_holding ?_
    refine wpAny_bind ((strKind P w).pyHash (k := z) (strKind_is _ _ _ _) ?_)
    refine add_hashed (s := { s' with toks := s'.toks + 1 }) hS1 (by omega) fun g' sb hS2 => ?_
    have hS3 : TxtSet P w g' Z (fun j => decide (j ∈ ks.take (i + 1))) (if decide (z ∈ ks.take i) = true then c else c + 1) := hS2.same fun j => by
      rw [List.take_add_one, hz]
      simp [List.mem_append]
    have hc3 : (if decide (z ∈ ks.take i) = true then c else c + 1) ≤ i + 1 := by
      split <;> omega
    refine wpAny_pure ⟨plainId_quiet F.plain_set_update_loop _, ih (i + 1) _ (by omega) lt (W.frame _ s' _ _ hst' (Nat.le_succ _) fun b hb o e => ?_) ⟨_, hc3, hS3⟩ fun s'' c2 mv2 hS'' => ?_⟩
    · rw [sb.2 b (fun h : b = Z => hZ (by rw [← h]; exact hb))]; exact e
    · refine hR s'' c2 (Moved.trans W.gtrans ((mv.mono sub).then_heap (Nat.le_succ _) fun b o hb e => ?_) mv2) hS''
      rw [sb.2 b (fun h : b = Z => hb (by rw [h]; exact List.mem_cons_self))]; exact e
end
end GS
/-! GS2: set(row of texts), len, sorted of it. -/
namespace GS
open PySem PySem.Spec PyProof.Rows L2
section
variable {P : Program} {w : World} {A : Around} {E : Value → Shared → Prop} {s : Shared}
theorem call_tup {l : Addr} {its : Array Value} (ks : List Str) {Q : Value → Shared → Prop} (hh : A.handled = none) (hl : s.heap.IsTuple l its) (hi : StrsAre its.toList ks) (hbd : ks.length + 1 < scanBound)
    (fin : ∀ (h' : Heap) (tk cc : Nat), TxtSet P w h' s.heap.objs.size (fun j => decide (j ∈ ks)) cc → (∀ b o, s.heap.get? b = some o → h'.get? b = some o) → Q (.ref s.heap.objs.size) { s with heap := h', toks := tk }) :
    wpAny (model P w) A (call (.type "set") [.ref l]) Q E s := by
  have hz : its.size = ks.length := by
    have q := StrsAre.len_eq hi
    rwa [Array.length_toList] at q
  obtain ⟨cc, tt, x1⟩ := F.called_set.mro
  have x2 := F.called_set.made
  have x3 := F.called_set.sub
  refine wpAny_call (codeAny_of_tree ?_)
  show wpAny _ _ (callAny (.type "set") _) _ _ _
  refine wpAny_pure ⟨Code.quiet_builtin _ (by decide +kernel), codeAny_builtin F.entry_type_call ?_⟩
  rw [Around.under_plain (weight_type_call_type "set" [.ref l] []) rfl]
  have x4 := F.called_set.notType
  have x5 := F.called_set.canCreate
  have x6 := F.typeCall_set_1 (.ref l)
  repeat (any_goals (first | assumption | wp_step))

  refine codeAny_mono (code_set_led1 (.ref l) (E := E) (Q₁ := fun made s1 => made = .ref s.heap.objs.size ∧ s1 = { s with heap := s.heap.push { cls := .type "set", dict := none, data := .set #[] 0 (.fresh 0 0 (!w.params.followText "set-order")) } }) ⟨rfl, rfl⟩) fun r s1 res => ?_
  cases r with
  | error e => exact res
  | ok fw =>
    cases fw with
    | ret made =>
      obtain ⟨rfl, rfl⟩ := res
      have new0 : (s.heap.push { cls := .type "set", dict := none, data := .set #[] 0 (.fresh 0 0 (!w.params.followText "set-order")) }).get? s.heap.objs.size = some { cls := .type "set", dict := none, data := .set #[] 0 (.fresh 0 0 (!w.params.followText "set-order")) } := Heap.get?_push_size _ rfl
      have ty : Shared.TypeIs { s with heap := s.heap.push { cls := .type "set", dict := none, data := .set #[] 0 (.fresh 0 0 (!w.params.followText "set-order")) } } (.ref s.heap.objs.size) "set" := ⟨_, new0, rfl⟩
      have li := F.called_set.init.lookup
      have bi := F.called_set.init.bind (.ref s.heap.objs.size)
      repeat (any_goals (first | assumption | wp_step))

      refine codeAny_mono (codeAny_call_builtin (R := wants (fun r s2 => r = .none ∧ ∃ h' tk cc, s2 = { s with heap := h', toks := tk } ∧ TxtSet P w h' s.heap.objs.size (fun j => decide (j ∈ ks)) cc ∧
          (∀ b o, s.heap.get? b = some o → h'.get? b = some o)) E) F.called_set.init.plain F.entry_set_init (check_set_init_1 ty ?_)) fun r2 s2 res2 => ?_
      · obtain ⟨ob, hob, ecl, nn, edl⟩ := hl
        obtain ⟨o1, o2, o3, o4⟩ := ob
        simp only at ecl edl
        subst ecl; subst edl
        have hob' : (s.heap.push { cls := .type "set", dict := none, data := .set #[] 0 (.fresh 0 0 (!w.params.followText "set-order")) }).get? l = some { cls := .type "tuple", dict := o2, data := .seq its nn, slots := o4 } := Heap.get?_push_of_some _ hob
        have y1 := F.sub_tuple_set
        have y2 := F.sub_tuple_frozenset
        have y3 : (Value.type "tuple" == Value.type "dict") = false := by decide
        have atl : (s.heap.push { cls := .type "set", dict := none, data := .set #[] 0 (.fresh 0 0 (!w.params.followText "set-order")) }).IsTuple l its := ⟨_, hob', rfl, nn, rfl⟩
        unfold Builtin.«set.__init__» noKeywords Builtin.Frozenset.updateFrom
        generalize epi : pyIter = PI
        wp_walk
        subst epi

        refine wpAny_pyIter_tuple atl ?_
        refine wpAny_bind (wpAny_runValue ?_)
        have lts : l < s.heap.objs.size := Heap.lt_size hob
        have hh3 : A.in1.in1.in1.handled = none := by simp [hh]
        have sz1 : (s.heap.push { cls := .type "set", dict := none, data := .set #[] 0 (.fresh 0 0 (!w.params.followText "set-order")) }).objs.size = s.heap.objs.size + 1 := Heap.size_push ..
        have neI : l ≠ (s.heap.push { cls := .type "set", dict := none, data := .set #[] 0 (.fresh 0 0 (!w.params.followText "set-order")) }).objs.size := by
          rw [Heap.size_push]; exact Nat.ne_of_lt (Nat.lt_succ_of_lt lts)
        have nSf : s.heap.objs.size ∉ [(s.heap.push { cls := .type "set", dict := none, data := .set #[] 0 (.fresh 0 0 (!w.params.followText "set-order")) }).objs.size, l] := by
          rw [Heap.size_push]; simp only [List.mem_cons, List.mem_singleton, List.not_mem_nil, or_false, not_or]
          exact ⟨Nat.ne_of_lt (Nat.lt_succ_self _), Nat.ne_of_gt lts⟩
        have vals : ∀ (i : Nat) (v : Value), its[i]? = some v → ∃ k t, ks[i]? = some k ∧ v = .str k t := fun i v hv => by
          have hlt : i < ks.length := by rw [← hz]; exact (Array.getElem?_eq_some_iff.mp hv).1
          obtain ⟨t, e⟩ := SS.strs_at hi i v (by rw [Array.getElem?_toList]; exact hv)
          refine ⟨ks[i], t, List.getElem?_eq_getElem hlt, ?_⟩
          rw [e, List.getD_eq_getElem?_getD, List.getElem?_eq_getElem hlt] <;> rfl
        refine fill ((Walks.tuple hh3 _ l neI its).toS) s.heap.objs.size
          nSf ks hz hbd vals (its.size - 0) 0 _ (by omega) (Nat.zero_le _)
          ⟨⟨_, Heap.get?_push_size _ rfl, rfl, rfl⟩, (atl.push _)⟩ ?hS0 ?hR
        case hS0 =>
          have got : ((s.heap.push { cls := .type "set", dict := none, data := .set #[] 0 (.fresh 0 0 (!w.params.followText "set-order")) }).push { cls := .type "tuple_iterator", data := .fields #[.ref l, .int 0 0] }).get? s.heap.objs.size
              = some { cls := .type "set", dict := none, data := .set #[] 0 (.fresh 0 0 (!w.params.followText "set-order")) } := Heap.get?_push_of_some _ new0
          exact ⟨0, Nat.le_refl 0, (new_at got).same fun j => by simp⟩
        case hR =>
          intro s' c' mv now'
          obtain ⟨h', g2, d', tk', os'⟩ := s'
          have eg : g2 = s.gens := mv.gens
          have ed : d' = s.drawn := mv.drawn
          have eo : os' = s.os := mv.os
          subst eg; subst ed; subst eo
          show wpAny _ _ _ _ _ _
          refine wpAny_pure ?_
          show wpAny _ _ (ret Value.none) _ _ _
          refine wpAny_pure ⟨rfl, h', tk', c', rfl, now', fun b o e => ?_⟩
          have lt0 : b < s.heap.objs.size := Heap.lt_size e
          have ne1 : b ≠ s.heap.objs.size := Nat.ne_of_lt lt0
          have ne2 : b ≠ (s.heap.push { cls := .type "set", dict := none, data := .set #[] 0 (.fresh 0 0 (!w.params.followText "set-order")) }).objs.size := by
            rw [Heap.size_push]; exact Nat.ne_of_lt (Nat.lt_succ_of_lt lt0)
          exact mv.heap b o (by simp only [List.mem_cons, List.mem_singleton, List.not_mem_nil, or_false, not_or]; exact ⟨ne1, ne2⟩) (Heap.get?_push_of_some _ (Heap.get?_push_of_some _ e))

      · cases r2 with
        | error e => exact res2
        | ok fw2 =>
          cases fw2 with
          | ret r =>
            obtain ⟨rfl, h', tk, c', rfl, now', kp'⟩ := res2
            repeat (any_goals (first | assumption | wp_step))
            exact fin _ _ _ now' kp'
          | _ => exact res2.elim
    | _ => exact res.elim

theorem call_lst {l : Addr} {its : Array Value} (ks : List Str) {Q : Value → Shared → Prop} (hh : A.handled = none) (hl : s.heap.IsList l its) (hi : StrsAre its.toList ks) (hbd : ks.length + 1 < scanBound)
    (fin : ∀ (h' : Heap) (tk cc : Nat), TxtSet P w h' s.heap.objs.size (fun j => decide (j ∈ ks)) cc → (∀ b o, s.heap.get? b = some o → h'.get? b = some o) → Q (.ref s.heap.objs.size) { s with heap := h', toks := tk }) :
    wpAny (model P w) A (call (.type "set") [.ref l]) Q E s := by
  have hz : its.size = ks.length := by
    have q := StrsAre.len_eq hi
    rwa [Array.length_toList] at q
  obtain ⟨cc, tt, x1⟩ := F.called_set.mro
  have x2 := F.called_set.made
  have x3 := F.called_set.sub
  refine wpAny_call (codeAny_of_tree ?_)
  show wpAny _ _ (callAny (.type "set") _) _ _ _
  refine wpAny_pure ⟨Code.quiet_builtin _ (by decide +kernel), codeAny_builtin F.entry_type_call ?_⟩
  rw [Around.under_plain (weight_type_call_type "set" [.ref l] []) rfl]
  have x4 := F.called_set.notType
  have x5 := F.called_set.canCreate
  have x6 := F.typeCall_set_1 (.ref l)
  repeat (any_goals (first | assumption | wp_step))

  refine codeAny_mono (code_set_led1 (.ref l) (E := E) (Q₁ := fun made s1 => made = .ref s.heap.objs.size ∧ s1 = { s with heap := s.heap.push { cls := .type "set", dict := none, data := .set #[] 0 (.fresh 0 0 (!w.params.followText "set-order")) } }) ⟨rfl, rfl⟩) fun r s1 res => ?_
  cases r with
  | error e => exact res
  | ok fw =>
    cases fw with
    | ret made =>
      obtain ⟨rfl, rfl⟩ := res
      have new0 : (s.heap.push { cls := .type "set", dict := none, data := .set #[] 0 (.fresh 0 0 (!w.params.followText "set-order")) }).get? s.heap.objs.size = some { cls := .type "set", dict := none, data := .set #[] 0 (.fresh 0 0 (!w.params.followText "set-order")) } := Heap.get?_push_size _ rfl
      have ty : Shared.TypeIs { s with heap := s.heap.push { cls := .type "set", dict := none, data := .set #[] 0 (.fresh 0 0 (!w.params.followText "set-order")) } } (.ref s.heap.objs.size) "set" := ⟨_, new0, rfl⟩
      have li := F.called_set.init.lookup
      have bi := F.called_set.init.bind (.ref s.heap.objs.size)
      repeat (any_goals (first | assumption | wp_step))

      refine codeAny_mono (codeAny_call_builtin (R := wants (fun r s2 => r = .none ∧ ∃ h' tk cc, s2 = { s with heap := h', toks := tk } ∧ TxtSet P w h' s.heap.objs.size (fun j => decide (j ∈ ks)) cc ∧
          (∀ b o, s.heap.get? b = some o → h'.get? b = some o)) E) F.called_set.init.plain F.entry_set_init (check_set_init_1 ty ?_)) fun r2 s2 res2 => ?_
      · obtain ⟨ob, hob, ecl, nn, edl⟩ := hl
        obtain ⟨o1, o2, o3, o4⟩ := ob
        simp only at ecl edl
        subst ecl; subst edl
        have hob' : (s.heap.push { cls := .type "set", dict := none, data := .set #[] 0 (.fresh 0 0 (!w.params.followText "set-order")) }).get? l = some { cls := .type "list", dict := o2, data := .seq its nn, slots := o4 } := Heap.get?_push_of_some _ hob
        have y1 := F.sub_list_set
        have y2 := F.sub_list_frozenset
        have y3 : (Value.type "list" == Value.type "dict") = false := by decide
        have atl : (s.heap.push { cls := .type "set", dict := none, data := .set #[] 0 (.fresh 0 0 (!w.params.followText "set-order")) }).IsList l its := ⟨_, hob', rfl, nn, rfl⟩
        unfold Builtin.«set.__init__» noKeywords Builtin.Frozenset.updateFrom
        generalize epi : pyIter = PI
        wp_walk
        subst epi

        refine wpAny_pyIter_list atl ?_
        refine wpAny_bind (wpAny_runValue ?_)
        have lts : l < s.heap.objs.size := Heap.lt_size hob
        have hh3 : A.in1.in1.in1.handled = none := by simp [hh]
        have sz1 : (s.heap.push { cls := .type "set", dict := none, data := .set #[] 0 (.fresh 0 0 (!w.params.followText "set-order")) }).objs.size = s.heap.objs.size + 1 := Heap.size_push ..
        have neI : l ≠ (s.heap.push { cls := .type "set", dict := none, data := .set #[] 0 (.fresh 0 0 (!w.params.followText "set-order")) }).objs.size := by
          rw [Heap.size_push]; exact Nat.ne_of_lt (Nat.lt_succ_of_lt lts)
        have nSf : s.heap.objs.size ∉ [(s.heap.push { cls := .type "set", dict := none, data := .set #[] 0 (.fresh 0 0 (!w.params.followText "set-order")) }).objs.size, l] := by
          rw [Heap.size_push]; simp only [List.mem_cons, List.mem_singleton, List.not_mem_nil, or_false, not_or]
          exact ⟨Nat.ne_of_lt (Nat.lt_succ_self _), Nat.ne_of_gt lts⟩
        have vals : ∀ (i : Nat) (v : Value), its[i]? = some v → ∃ k t, ks[i]? = some k ∧ v = .str k t := fun i v hv => by
          have hlt : i < ks.length := by rw [← hz]; exact (Array.getElem?_eq_some_iff.mp hv).1
          obtain ⟨t, e⟩ := SS.strs_at hi i v (by rw [Array.getElem?_toList]; exact hv)
          refine ⟨ks[i], t, List.getElem?_eq_getElem hlt, ?_⟩
          rw [e, List.getD_eq_getElem?_getD, List.getElem?_eq_getElem hlt] <;> rfl
        refine fill ((Walks.list hh3 _ l neI its).toS) s.heap.objs.size
          nSf ks hz hbd vals (its.size - 0) 0 _ (by omega) (Nat.zero_le _)
          ⟨⟨_, Heap.get?_push_size _ rfl, rfl, rfl⟩, (atl.push _)⟩ ?hS0 ?hR
        case hS0 =>
          have got : ((s.heap.push { cls := .type "set", dict := none, data := .set #[] 0 (.fresh 0 0 (!w.params.followText "set-order")) }).push { cls := .type "list_iterator", data := .fields #[.ref l, .int 0 0] }).get? s.heap.objs.size
              = some { cls := .type "set", dict := none, data := .set #[] 0 (.fresh 0 0 (!w.params.followText "set-order")) } := Heap.get?_push_of_some _ new0
          exact ⟨0, Nat.le_refl 0, (new_at got).same fun j => by simp⟩
        case hR =>
          intro s' c' mv now'
          obtain ⟨h', g2, d', tk', os'⟩ := s'
          have eg : g2 = s.gens := mv.gens
          have ed : d' = s.drawn := mv.drawn
          have eo : os' = s.os := mv.os
          subst eg; subst ed; subst eo
          show wpAny _ _ _ _ _ _
          refine wpAny_pure ?_
          show wpAny _ _ (ret Value.none) _ _ _
          refine wpAny_pure ⟨rfl, h', tk', c', rfl, now', fun b o e => ?_⟩
          have lt0 : b < s.heap.objs.size := Heap.lt_size e
          have ne1 : b ≠ s.heap.objs.size := Nat.ne_of_lt lt0
          have ne2 : b ≠ (s.heap.push { cls := .type "set", dict := none, data := .set #[] 0 (.fresh 0 0 (!w.params.followText "set-order")) }).objs.size := by
            rw [Heap.size_push]; exact Nat.ne_of_lt (Nat.lt_succ_of_lt lt0)
          exact mv.heap b o (by simp only [List.mem_cons, List.mem_singleton, List.not_mem_nil, or_false, not_or]; exact ⟨ne1, ne2⟩) (Heap.get?_push_of_some _ (Heap.get?_push_of_some _ e))

      · cases r2 with
        | error e => exact res2
        | ok fw2 =>
          cases fw2 with
          | ret r =>
            obtain ⟨rfl, h', tk, c', rfl, now', kp'⟩ := res2
            repeat (any_goals (first | assumption | wp_step))
            exact fin _ _ _ now' kp'
          | _ => exact res2.elim
    | _ => exact res.elim

end
end GS
/-! GS3: sets of texts as tracked things: set(row), len, sorted, comprehensions. -/
namespace GS
open PySem PySem.Spec PyProof.Rows L2
/-! ### sorted -/
theorem txts_are {P : Program} {w : World} : ∀ (es : List (Int × Value)), (∀ e ∈ es, TxtE P w e) → StrsAre (es.map (·.2)) (es.map txt)
  | [], _ => .nil
  | e :: r, h => by
    obtain ⟨k, u, e1, _⟩ := h e (List.mem_cons_self ..)
    have z : txt e = k := by unfold txt; rw [e1]
    rw [List.map_cons, List.map_cons, e1, z]
    exact .cons k u (txts_are r fun x hx => h x (List.mem_cons_of_mem _ hx))
theorem strs_perm {a b : List Value} (p : a.Perm b) : ∀ {ks : List Str}, StrsAre b ks → ∃ ks', StrsAre a ks' ∧ ks'.Perm ks := by
  have up : ∀ {l : List Value} {ks : List Str}, StrsAre l ks → ks = l.map (fun v => txt (0, v)) := fun {l ks} h => by
    induction h with
    | nil => rfl
    | cons n t r ih => rw [List.map_cons, ← ih] <;> rfl
  have dn : ∀ (l : List Value), (∀ v ∈ l, ∃ k t, v = .str k t) → StrsAre l (l.map fun v => txt (0, v)) := fun l => by
    induction l with
    | nil => intro _; exact .nil
    | cons v l ih =>
      intro h
      obtain ⟨k, t, rfl⟩ := h v (List.mem_cons_self ..)
      exact .cons k t (ih fun x hx => h x (List.mem_cons_of_mem _ hx))
  have mem : ∀ {l : List Value} {ks : List Str}, StrsAre l ks → ∀ v ∈ l, ∃ k t, v = .str k t := fun {l ks} h => by
    induction h with
    | nil => intro v hv; cases hv
    | cons n t r ih =>
      intro v hv
      rcases List.mem_cons.mp hv with rfl | hv
      · exact ⟨_, _, rfl⟩
      · exact ih v hv
  intro ks h
  refine ⟨_, dn a fun v hv => mem h v (p.mem_iff.mp hv), ?_⟩
  rw [up h]
  exact p.map _
theorem sorted_txt {P : Program} {w : World} {A : Around} {E : Value → Shared → Prop} {s : Shared} {q : Addr} {S : Str → Bool} {n : Nat} {Q : Value → Shared → Prop} (R : TxtSet P w s.heap q S n) (hh : A.handled = none)
    (hQ : ∀ s' p (out : List Value) (c : Nat) (ks : List Str), (∀ b o, s.heap.get? b = some o → s'.heap.get? b = some o) → s'.gens = s.gens → s'.os = s.os → s.heap.objs.size ≤ p →
      s'.heap.get? p = some (seqObj "list" out.toArray c) → StrsAre out (HD.sortS ks) → ks.Nodup → (∀ k, S k = true ↔ k ∈ ks) → ks.length = n → ks.length < scanBound → Q (.ref p) s') :
    wpAny (model P w) A (call (.builtin "sorted") [.ref q]) Q E s := by
  obtain ⟨ob, es, ep, tb, h0, hx, hd, a1, a2, a3, a4, a5, a6, a7, a8⟩ := R
  refine Calls.call_function_entry kind_sorted plain_sorted entry_sorted (args_sorted1 _) ?_
  unfold Builtin.«sorted»
  refine wpAny_bind (m := checkCount "sorted" 1 1 _) (wpAny_pure ?_)
  refine wpAny_bind (collect_set (A := A.in1) hh ⟨ob, h0, hx.1, hd⟩ a5 a4 a7 a8 fun s1 us k1 hz g1 o1 pm => ?_)
  obtain ⟨ks, hS, pk⟩ := strs_perm pm (txts_are es.toList a1)
  have hul : us.length = n := by rw [pm.length_eq, List.length_map, Array.length_toList]; exact a6
  have hfit : us.length ≤ sizeLine := by rw [hul, ← a6]; exact fits_of_scanBound a4
  refine wpAny_bind (wpAny_newList ?_ hfit)
  have hoL : (s1.heap.push (seqObj "list" us.toArray 0)).get? s1.heap.objs.size = some (seqObj "list" us.toArray 0) := Heap.get?_push_size _ rfl
  show wpAny _ _ _ _ _ { s1 with heap := s1.heap.push (seqObj "list" us.toArray 0) }
  refine wpAny_bind (wpAny_holding (wpAny_call_entry slot_list_sort ⟨_, hoL, rfl⟩ entry_list_sort
    (list_sort_treeKAny strKind_oneLt (s := { s1 with heap := s1.heap.push (seqObj "list" us.toArray 0) }) hoL hS.keysOf (fun v₁ v₂ rest e => keyKind_strs (by rw [← e]; exact hS)) hfit fun st' hp hs => ⟨_, rfl, ?_⟩) (args_list_sort _)))
  obtain ⟨ys, z1, z2, z3⟩ := sorted_out_str hS hp hs
  obtain ⟨e', he'⟩ := sortedHeap_at (vs := us) (out := (arrOf st').map (·.2)) hoL
  have kl : ks.length = n := by rw [pk.length_eq, List.length_map, Array.length_toList]; exact a6
  refine wpAny_pure ⟨_, rfl, hQ _ s1.heap.objs.size ((arrOf st').map (·.2)).toList e' ks (fun b o e => ?_) g1 o1 hz (by rw [Array.toArray_toList]; exact he') (by rw [← HD.sortS_of z2 (HD.sorted_pw z3)]; exact z1) (pk.nodup_iff.mpr a2) (fun k => by rw [a3 k, pk.mem_iff]) kl (by rw [kl, ← a6]; exact a4)⟩
  have y := k1 b o e
  have hb : b < s1.heap.objs.size := Heap.lt_size y
  rw [sortedHeap_old (Nat.ne_of_lt hb) (by rw [size_push']; exact Nat.lt_succ_of_lt hb)]
  exact Heap.get?_push_of_some _ y
/-! ### as tracked things -/
def TxtO (P : Program) (w : World) (q : Addr) (S : Str → Bool) (n : Nat) : HO := .ext fun g => TxtSet P w g q S n
theorem txtO_new {w : World} {P : Program} {H : Hp} {g : Heap} {q : Addr} {S : Str → Bool} {n : Nat} (R : TxtSet P w g q S n) : ObjOk P w H g q (TxtO P w q S n) := by
  have ⟨ob, _, _, _, h0, _⟩ := R
  exact ⟨R, ⟨ob, h0⟩, fun _ _ z k => TxtSet.keep z k⟩
section
variable {X : Cx}
theorem txtO_get {pins : List (Addr × Obj)} {σ : L2.St} {H : Hp} {s : Shared} {q : Addr} {S : Str → Bool} {n : Nat} (I : Inv X pins σ H s) (ha : H q = some (TxtO X.prog X.w q S n)) : TxtSet X.prog X.w s.heap q S n := (I.hok q _ ha).1
theorem cr_set (hc : X.calm = true) : CallR X (.type "set") (fun xs H Q => ∃ (a : Addr) (ks : List Str), xs = [.ref a] ∧ (SqL X.K H a (ks.map V.str) ∨ SqT X.K H a (ks.map V.str)) ∧ ks.length + 1 < scanBound ∧
    ∀ p c, H p = none → Q (.ref p) (upd H p (TxtO X.prog X.w p (fun j => decide (j ∈ ks)) c))) := by
  intro pins s σ H xs us Q I r q
  obtain ⟨a, ks, ex, src, hb, q⟩ := q
  subst ex
  rw [Vals.ref1 r]
  have fin : ∀ (g' : Heap) (tk c : Nat), TxtSet X.prog X.w g' s.heap.objs.size (fun j => decide (j ∈ ks)) c → (∀ b o, s.heap.get? b = some o → g'.get? b = some o) → ∃ x H', Inv X pins σ H' { s with heap := g', toks := tk } ∧ RelV x (.ref s.heap.objs.size) ∧ Q x H' := fun g' tk c R k =>
    ⟨.ref _, upd H s.heap.objs.size (TxtO X.prog X.w s.heap.objs.size (fun j => decide (j ∈ ks)) c), I.laid (t' := tk) k (Nat.le_refl _) (txtO_new R), rfl, q _ _ (I.hok.fresh (Nat.le_refl _))⟩
  rcases src with hs | hs
  · obtain ⟨its, rv, hl, hz⟩ := I.list hs
    exact call_lst ks (its := its.toArray) (I.ok.hd hc) hl.isList (by simpa using rv.strs) hb fin
  · obtain ⟨its, rv, hl, hz⟩ := I.tuple hs
    exact call_tup ks (its := its.toArray) (I.ok.hd hc) hl (by simpa using rv.strs) hb fin
theorem cr_sorted (hc : X.calm = true) : CallR X (.builtin "sorted") (fun xs H Q => ∃ (a : Addr) (S : Str → Bool) (n : Nat), xs = [.ref a] ∧ H a = some (TxtO X.prog X.w a S n) ∧
    ∀ (ks : List Str) (p : Addr), ks.Nodup → (∀ k, S k = true ↔ k ∈ ks) → H p = none → Q (.ref p) (upd H p (.lst ((HD.sortS ks).map V.str)))) := by
  intro pins s σ H vs us Q I r h
  obtain ⟨a, S, n, rfl, ha, q⟩ := h
  rw [Vals.ref1 r]
  refine sorted_txt (txtO_get I ha) (I.ok.hd hc) fun s' p out c ks k g o hp hg hi hnd hm hl hbd => ?_
  have hlen : ((HD.sortS ks).map V.str).length ≤ sizeLine := by rw [List.length_map, (HD.sortS_perm ks).length_eq]; exact fits_of_scanBound hbd
  have hn : H p = none := I.hok.fresh hp
  have J : Inv X pins σ (upd H p (.lst ((HD.sortS ks).map V.str))) { s with heap := s'.heap, gens := s'.gens, drawn := s'.drawn, toks := s'.toks } :=
    I.call (ch := []) (Un.laid k hp hn) (I.hok.laid k hp ⟨hlen, out, c, vals_of_strs hi, hg⟩) (by rw [g]; exact I.bare) (fun _ z => nomatch z)
  have e : s' = { s with heap := s'.heap, gens := s'.gens, drawn := s'.drawn, toks := s'.toks } := by
    cases s'
    cases s
    cases o
    rfl
  rw [e]
  exact ⟨.ref p, _, J, rfl, q ks p hnd hm hn⟩
theorem cr_len : CallR X (.builtin "len") (fun xs H Q => ∃ (a : Addr) (S : Str → Bool) (n : Nat), xs = [.ref a] ∧ H a = some (TxtO X.prog X.w a S n) ∧ ∀ (ks : List Str), ks.Nodup → (∀ k, S k = true ↔ k ∈ ks) → Q (.int (ks.length : Int)) H) := by
  intro pins s σ H vs us Q I r h
  obtain ⟨a, S, n, rfl, ha, q⟩ := h
  rw [Vals.ref1 r]
  obtain ⟨ob, es, ep, tb, h0, hx, hd, a1, a2, a3, a4, a5, a6, a7, a8⟩ := txtO_get I ha
  have z := fits_of_scanBound a4
  refine call_len_set h0 hx hd a5 (by have : scanBound = 4096 := rfl; omega) ⟨.int (es.size : Int), H, I.tok _, ⟨_, rfl⟩, ?_⟩
  have y := q _ a2 a3
  rw [List.length_map, Array.length_toList] at y
  exact y
end
end GS
/-! GS4: set comprehensions of texts. -/
namespace GS
open PySem PySem.Spec PyProof.Rows L2
section
variable {X : Cx}
def tSc (P : Program) (w : World) (wi : TI) (g : TG) (tt : TT) (te : TE) (vs : List Nat) : TE := fun σ H Q => wi σ H fun J H1 => ∀ D, H1 D = none → ∃ W : Nat → Nat → Hp → Prop, (∃ m, W 0 m (upd H1 D (TxtO P w D (fun _ => false) 0))) ∧ ∀ i m H, W i m H →
  (J.stop i H ∧ Q (.ref D) H) ∨ (J.go i H ∧ ∃ Nx : Hp → Prop, (∀ H', Nx H' → ∃ m', m' < m ∧ W (i + 1) m' H') ∧ ∀ x H', J.yld i H x H' → g x (wipe σ vs) H' fun σ2 H2 => wipe σ2 vs = wipe σ vs ∧ tt σ2 H2 fun b H3 =>
    if b = true then te σ2 H3 fun y H4 => ∃ (c : Str) (S : Str → Bool) (n : Nat), y = .str c ∧ H4 D = some (TxtO P w D S n) ∧ n + 1 < scanBound ∧ Nx (upd H4 D (TxtO P w D (fun j => S j || decide (j = c)) (if S c = true then n else n + 1))) else Nx H3)
end
end GS
/-! HE19: sets of texts: sorted(set(x)), len(set(x)), sorted({.. for ..}). -/
namespace HD
open PySem PySem.Spec PyProof.Rows L2
/-- each once -/
def uniS : List Str → List Str
  | [] => []
  | x :: r => if x ∈ r then uniS r else x :: uniS r
theorem uniS_mem {z : Str} : ∀ {l : List Str}, z ∈ uniS l ↔ z ∈ l
  | [] => Iff.rfl
  | x :: r => by
    unfold uniS
    split
    · rename_i h
      rw [uniS_mem, List.mem_cons]
      exact ⟨.inr, fun q => q.elim (fun e => e ▸ h) id⟩
    · rw [List.mem_cons, List.mem_cons, uniS_mem]
theorem uniS_nodup : ∀ l : List Str, (uniS l).Nodup
  | [] => List.nodup_nil
  | x :: r => by
    unfold uniS
    split
    · exact uniS_nodup r
    · rename_i h
      exact List.nodup_cons.mpr ⟨fun z => h (uniS_mem.mp z), uniS_nodup r⟩
theorem perm_of_nodup {a b : List Str} (ha : a.Nodup) (hb : b.Nodup) (h : ∀ k, k ∈ a ↔ k ∈ b) : a.Perm b := (List.perm_ext_iff_of_nodup ha hb).mpr h
theorem sort_uni {ks zs : List Str} (nd : ks.Nodup) (h : ∀ k, k ∈ ks ↔ k ∈ zs) : sortS ks = sortS (uniS zs) :=
  sortS_of ((sortS_perm ks).trans (perm_of_nodup nd (uniS_nodup zs) fun k => (h k).trans uniS_mem.symm)) (sortS_pw ks)
theorem len_uni {ks zs : List Str} (nd : ks.Nodup) (h : ∀ k, k ∈ ks ↔ k ∈ zs) : ks.length = (uniS zs).length := (perm_of_nodup nd (uniS_nodup zs) fun k => (h k).trans uniS_mem.symm).length_eq
abbrev DZ := Rho → (Err → Prop) → (List Str → Prop) → Prop
section
variable {X : Cx} {F : Fx} {Cl : Str → Addr} {W : WX} {B : Bg}
/-- a set of texts, known to nobody yet -/
def upZ (P : Program) (w : World) (F : Fx) (Cl : Str → Addr) (W : WX) (dz : DZ) : TE := fun σ H Q => ∃ ρ Xd Qd, EnvOk F H σ ρ ∧ dz ρ Xd Qd ∧ XO F Cl W σ H ρ Xd ∧
  ∀ zs, Qd zs → (∀ z ∈ zs, okS z) → ∀ p H' S c, Ex F.B H H' → H p = none → H' p = some (GS.TxtO P w p S c) → (∀ k, S k = true ↔ k ∈ zs) → Q (.ref p) H'
def dSetOf (de : DE) : DZ := fun ρ Xd Q => de ρ Xd fun d => ∃ zs : List Str, zs.length ≤ 4000 ∧ (d = .lst (zs.map D.str) ∨ d = .tup (zs.map D.str)) ∧ Q zs
theorem zSet {e : Expr} {p pos : Pos} {de : DE} (hc : X.calm = true) (hg : Gl X "set") (hm : X.mg "set" = none) (hv : bootBuiltins "set" = some (.type "set")) (ha : PE X e (upE F Cl W de))
    (he : starEach [e] X.env = (false, eval e X.env) :: starEach [] X.env := by rfl) (hpl : (backTo pos (starEach [] X.env)).any (·.1) = false := by rfl) (hK : X.K = F.K := by rfl) :
    PE X (.Call (.Name "set" p) [e] [] pos) (upZ X.prog X.w F Cl W (dSetOf de)) := by
  refine pe_imp (pe_callTy (GS.cr_set hc) hg hm hv (pa_cons ha pa_nil he) (by decide) (by decide) he hpl) fun σ H Q ⟨ρ, Xd, Qd, env, h, xo, k⟩ => ?_
  refine ⟨ρ, Xd, _, env, h, xo, fun d ⟨zs, hz, hd, q⟩ v H1 x1 i1 => ?_⟩
  have lt : zs.length + 1 < scanBound := by have : scanBound = 4096 := rfl; omega
  rcases hd with rfl | rfl
  · cases i1 with
    | lst ha na ra =>
      obtain ⟨e1, e2⟩ := strs_of ra
      subst e1
      exact ⟨_, zs, rfl, .inl (SqL.of ha), lt, fun p c hn => k zs q e2 p _ _ c (x1.trans (Ex.new hn)) (x1.free hn) upd_same fun z => decide_eq_true_iff⟩
  · cases i1 with
    | tup ha ra =>
      obtain ⟨e1, e2⟩ := strs_of ra
      subst e1
      exact ⟨_, zs, rfl, .inr (by rw [hK]; exact ha), lt, fun p c hn => k zs q e2 p _ _ c (x1.trans (Ex.new hn)) (x1.free hn) upd_same fun z => decide_eq_true_iff⟩
def dSortZ (dz : DZ) : DE := fun ρ Xd Q => dz ρ Xd fun zs => Q (.lst ((sortS (uniS zs)).map D.str))
theorem nSortZ {e : Expr} {p pos : Pos} {dz : DZ} (hc : X.calm = true) (hg : Gl X "sorted") (hm : X.mg "sorted" = none) (hv : bootBuiltins "sorted" = some (.builtin "sorted")) (ha : PE X e (upZ X.prog X.w F Cl W dz))
    (he : starEach [e] X.env = (false, eval e X.env) :: starEach [] X.env := by rfl) (hpl : (backTo pos (starEach [] X.env)).any (·.1) = false := by rfl) :
    PE X (.Call (.Name "sorted" p) [e] [] pos) (upN F Cl W (dSortZ dz)) := by
  refine pe_imp (pe_callB (GS.cr_sorted hc) hg hm hv (pa_cons ha pa_nil he) (by decide) (by decide) he hpl) fun σ H Q ⟨ρ, Xd, Qd, env, h, xo, k⟩ => ?_
  refine ⟨ρ, Xd, _, env, h, xo, fun zs q ok p H1 S c x1 hn hp hS => ⟨p, S, c, rfl, hp, fun ks p2 nd hm hn2 => ?_⟩⟩
  have e : sortS ks = sortS (uniS zs) := sort_uni nd fun z => (hm z).symm.trans (hS z)
  rw [e]
  exact k _ q p2 _ (x1.trans (Ex.new hn2)) (x1.free hn2) (own_new (strs_is fun z hz => ok z (uniS_mem.mp ((sortS_perm _).mem_iff.mp hz))) hn2 env.osb)
def dLenZ (dz : DZ) : DE := fun ρ Xd Q => dz ρ Xd fun zs => Q (.int ((uniS zs).length : Int))
theorem xLenZ {e : Expr} {p pos : Pos} {dz : DZ} (hg : Gl X "len") (hm : X.mg "len" = none) (hv : bootBuiltins "len" = some (.builtin "len")) (ha : PE X e (upZ X.prog X.w F Cl W dz))
    (he : starEach [e] X.env = (false, eval e X.env) :: starEach [] X.env := by rfl) (hpl : (backTo pos (starEach [] X.env)).any (·.1) = false := by rfl) :
    PE X (.Call (.Name "len" p) [e] [] pos) (upE F Cl W (dLenZ dz)) := by
  refine pe_imp (pe_callB GS.cr_len hg hm hv (pa_cons ha pa_nil he) (by decide) (by decide) he hpl) fun σ H Q ⟨ρ, Xd, Qd, env, h, xo, k⟩ => ?_
  refine ⟨ρ, Xd, _, env, h, xo, fun zs q ok p H1 S c x1 hn hp hS => ⟨p, S, c, rfl, hp, fun ks nd hm => ?_⟩⟩
  rw [len_uni nd fun z => (hm z).symm.trans (hS z)]
  exact k _ q _ H1 x1 (.int _)
/-! ### {elt for tg in it if ..} -/
def scD (tg : DG) (dt : DT) (de : DE) : List D → List Str → Rho → (List Str → Prop) → Prop
  | [], acc, _, Q => Q acc
  | d :: r, acc, ρ, Q => tg d ρ fun ρ1 => dt ρ1 (fun _ => False) fun c => if c = true then de ρ1 (fun _ => False) (fun y => ∃ s, y = .str s ∧ acc.length ≤ 4000 ∧ scD tg dt de r (acc ++ [s]) ρ Q) else scD tg dt de r acc ρ Q
def dSc (di : DI) (tg : DG) (dt : DT) (de : DE) (vs : List Nat) : DZ := fun ρ Xd Q => noOwn ρ vs = true ∧ di ρ Xd fun ds => scD tg dt de ds [] (wipeR ρ vs) Q
end
section
variable {ρ : Rho} {Xd : Err → Prop} {Q : D → Prop} {Z : List Str → Prop}
theorem e_setOf {a : DE} : dSetOf a ρ Xd Z = a ρ Xd fun d => ∃ zs : List Str, zs.length ≤ 4000 ∧ (d = .lst (zs.map D.str) ∨ d = .tup (zs.map D.str)) ∧ Z zs := propext Iff.rfl
theorem e_sortZ {z : DZ} : dSortZ z ρ Xd Q = z ρ Xd fun zs => Q (.lst ((sortS (uniS zs)).map D.str)) := propext Iff.rfl
theorem e_lenZ {z : DZ} : dLenZ z ρ Xd Q = z ρ Xd fun zs => Q (.int ((uniS zs).length : Int)) := propext Iff.rfl
theorem e_sc {di : DI} {tg : DG} {dt : DT} {de : DE} {vs : List Nat} : dSc di tg dt de vs ρ Xd Z = (noOwn ρ vs = true ∧ di ρ Xd fun ds => scD tg dt de ds [] (wipeR ρ vs) Z) := propext Iff.rfl
end
end HD
/-! HM1: the mirrors, taken apart by simp. -/
namespace HD
open PySem PyProof.Rows L2
section
variable {ρ : Rho} {Xd : Err → Prop} {Q : D → Prop} {De : DEnds} {a b c : DE} {s t : DS} {u v : DT} {da : DA}
@[simp] theorem e_seq : dSeq s t De ρ = s { De with nx := t De } ρ := propext Iff.rfl
@[simp] theorem e_next : dNext De ρ = De.nx ρ := propext Iff.rfl
@[simp] theorem e_ret : dRet a De ρ = a ρ (De.ex ρ) De.rt := propext Iff.rfl
@[simp] theorem e_retN : dRetN De ρ = De.rt .non := propext Iff.rfl
@[simp] theorem e_if : dIfS u s t De ρ = u ρ (De.ex ρ) (fun z => if z = true then s De ρ else t De ρ) := propext Iff.rfl
@[simp] theorem e_asg {i : Nat} : dAsg i a De ρ = a ρ (De.ex ρ) (fun d => De.nx (ρ.set i (some (.val d)))) := propext Iff.rfl
@[simp] theorem e_own {i : Nat} : dOwn i a De ρ = a ρ (De.ex ρ) (fun d => De.nx (ρ.set i (some (.own d)))) := propext Iff.rfl
@[simp] theorem e_drop : dDrop a De ρ = a ρ (De.ex ρ) (fun _ => De.nx ρ) := propext Iff.rfl
@[simp] theorem e_c {d : D} : dC d ρ Xd Q = Q d := propext Iff.rfl
theorem e_var0 {d : D} {r : Rho} : dVar 0 (some (.val d) :: r) Xd Q = Q d := by
  unfold dVar
  simp
theorem e_varS {i : Nat} {x : Option Sl} {r : Rho} : dVar (i + 1) (x :: r) Xd Q = dVar i r Xd Q := propext Iff.rfl
theorem e_itT {l : List D} : itemsOf (.tup l) = some l := rfl
theorem e_itL {l : List D} : itemsOf (.lst l) = some l := rfl
theorem e_itS {z : Str} : itemsOf (.str z) = some (z.cps.toList.map fun c => .str ⟨#[c]⟩) := rfl
@[simp] theorem e_var {i : Nat} {d : D} (h : ρ[i]? = some (some (.val d))) : dVar i ρ Xd Q = Q d := by
  unfold dVar
  rw [h]
  simp
@[simp] theorem e_op {r : D2} : dOp r a b ρ Xd Q = a ρ Xd fun x => b ρ Xd fun y => r x y Q := propext Iff.rfl
@[simp] theorem e_test {R : Bool → Prop} : dTest a ρ Xd R = a ρ Xd fun d => ∃ c, d = .bl c ∧ R c := propext Iff.rfl
@[simp] theorem e_and {R : Bool → Prop} : dAnd u v ρ Xd R = u ρ Xd fun c => if c = true then v ρ Xd R else R false := propext Iff.rfl
@[simp] theorem e_or {R : Bool → Prop} : dOr u v ρ Xd R = u ρ Xd fun c => if c = true then R true else v ρ Xd R := propext Iff.rfl
@[simp] theorem e_not {R : Bool → Prop} : dNot u ρ Xd R = u ρ Xd fun c => R (!c) := propext Iff.rfl
@[simp] theorem e_andV : dAndV a b ρ Xd Q = a ρ Xd fun x => ∃ c, x = .bl c ∧ if c = true then b ρ Xd Q else Q (.bl false) := propext Iff.rfl
@[simp] theorem e_orV : dOrV a b ρ Xd Q = a ρ Xd fun x => ∃ c, x = .bl c ∧ if c = true then Q (.bl true) else b ρ Xd Q := propext Iff.rfl
@[simp] theorem e_notV : dNotV a ρ Xd Q = a ρ Xd fun x => ∃ c, x = .bl c ∧ Q (.bl (!c)) := propext Iff.rfl
@[simp] theorem e_ifE : dIf u a b ρ Xd Q = u ρ Xd fun c => if c = true then a ρ Xd Q else b ρ Xd Q := propext Iff.rfl
@[simp] theorem e_chain {r r' : D2} : dChain r r' a b c ρ Xd Q = a ρ Xd fun x => b ρ Xd fun y => r x y fun z => ∃ e, z = .bl e ∧ if e = true then c ρ Xd fun w => r' y w Q else Q (.bl false) := propext Iff.rfl
@[simp] theorem e_nil {R : List D → Prop} : dNil ρ Xd R = R [] := propext Iff.rfl
@[simp] theorem e_cons {R : List D → Prop} : dCons a da ρ Xd R = a ρ Xd fun x => da ρ Xd fun xs => R (x :: xs) := propext Iff.rfl
@[simp] theorem e_tup : dTup da ρ Xd Q = da ρ Xd fun ds => ds.length ≤ sizeLine ∧ Q (.tup ds) := propext Iff.rfl
@[simp] theorem e_lst : dLst da ρ Xd Q = da ρ Xd fun ds => ds.length ≤ sizeLine ∧ Q (.lst ds) := propext Iff.rfl
@[simp] theorem e_cb {r : DR} : dCB r da ρ Xd Q = da ρ Xd fun ds => r ds Q := propext Iff.rfl
@[simp] theorem e_call {m : DFn} : dCall m da ρ Xd Q = da ρ Xd fun ds => m ds Xd Q := propext Iff.rfl
@[simp] theorem e_sl {l h : DO} : dSl a l h ρ Xd Q = a ρ Xd fun x => l ρ Xd fun l => h ρ Xd fun h => rSl x l h Q := propext Iff.rfl
@[simp] theorem e_part {R : Option Int → Prop} : dPart a ρ Xd R = a ρ Xd fun d => ∃ i, d = .int i ∧ R (some i) := propext Iff.rfl
@[simp] theorem e_noPart {R : Option Int → Prop} : dNoPart ρ Xd R = R none := propext Iff.rfl
@[simp] theorem e_items {R : List D → Prop} : dItems a ρ Xd R = a ρ Xd fun d => ∃ ds, itemsOf d = some ds ∧ R ds := propext Iff.rfl
@[simp] theorem e_rng1 {R : List D → Prop} : dRng1 da ρ Xd R = da ρ Xd fun ds => ∃ j, ds = [.int j] ∧ -(2 ^ 62) ≤ j ∧ j < 2 ^ 62 ∧ R (intsD 0 j.toNat) := propext Iff.rfl
@[simp] theorem e_lc {di : DI} {tg : DG} {vs : List Nat} : dLc di tg u a vs ρ Xd Q = (noOwn ρ vs = true ∧ di ρ Xd fun ds => lcD tg u a ds [] (wipeR ρ vs) fun acc => Q (.lst acc)) := propext Iff.rfl
@[simp] theorem e_yes {R : Bool → Prop} : dYes ρ Xd R = R true := propext Iff.rfl
@[simp] theorem e_fn {n np : Nat} {ds : List D} : dFn n np s ds Xd Q = (ds.length = np ∧ s { nx := fun _ => Q .non, rt := Q, bk := fun _ => False, ct := fun _ => False, ex := fun _ e => Xd e } (rho0 n ds)) := propext Iff.rfl
@[simp] theorem e_rho1 {n : Nat} {x : D} : rho0 (n + 1) [x] = some (.val x) :: List.replicate n none := rfl
@[simp] theorem e_rho2 {n : Nat} {x y : D} : rho0 (n + 2) [x, y] = some (.val x) :: some (.val y) :: List.replicate n none := rfl
@[simp] theorem e_rho3 {n : Nat} {x y z : D} : rho0 (n + 3) [x, y, z] = some (.val x) :: some (.val y) :: some (.val z) :: List.replicate n none := rfl
@[simp] theorem e_rho4 {n : Nat} {x y z w : D} : rho0 (n + 4) [x, y, z, w] = some (.val x) :: some (.val y) :: some (.val z) :: some (.val w) :: List.replicate n none := rfl
@[simp] theorem e_isi {d : D} {n : String} : rIsi [d, .ty n] Q = (isPl d = true ∧ n ∈ plainTys ∧ Q (.bl (isiN n d))) := propext ⟨fun ⟨d', n', e, h⟩ => by cases e; exact h, fun h => ⟨d, n, rfl, h⟩⟩
@[simp] theorem e_ints {C : Int → Int → Prop} {g : Int → Int → D} {i j : Int} : rInts C g (.int i) (.int j) Q = (C i j ∧ Q (g i j)) := by
  unfold rInts
  simp
@[simp] theorem e_CT {i j : Int} : CT i j = True := propext Iff.rfl
@[simp] theorem e_lenS {z : Str} : rLen [.str z] Q = Q (.int z.length) := propext Iff.rfl
@[simp] theorem e_lenT {xs : List D} : rLen [.tup xs] Q = Q (.int xs.length) := propext Iff.rfl
@[simp] theorem e_lenL {xs : List D} : rLen [.lst xs] Q = Q (.int xs.length) := propext Iff.rfl
@[simp] theorem e_addI {i j : Int} : rAdd (.int i) (.int j) Q = Q (.int (i + j)) := propext Iff.rfl
@[simp] theorem e_addS {x y : Str} : rAdd (.str x) (.str y) Q = (okS (x ++ y) ∧ Q (.str (x ++ y))) := propext Iff.rfl
@[simp] theorem e_addL {x y : List D} : rAdd (.lst x) (.lst y) Q = (x.length + y.length ≤ sizeLine ∧ Q (.lst (x ++ y))) := propext Iff.rfl
@[simp] theorem e_int {i : Int} : rInt [.int i] Q = Q (.int i) := propext Iff.rfl
@[simp] theorem e_intB {z : Bool} : rInt [.bl z] Q = Q (.int (if z then 1 else 0)) := propext Iff.rfl
@[simp] theorem e_ixT {ds : List D} {i : Int} : rIx (.tup ds) (.int i) Q = ∃ d, atI ds i = some d ∧ Q d := by
  unfold rIx
  simp
@[simp] theorem e_ixL {ds : List D} {i : Int} : rIx (.lst ds) (.int i) Q = ∃ d, atI ds i = some d ∧ Q d := by
  unfold rIx
  simp
@[simp] theorem e_ixS {z : Str} {i : Int} : rIx (.str z) (.int i) Q = ∃ c, atI z.cps.toList i = some c ∧ Q (.str ⟨#[c]⟩) := by
  unfold rIx
  simp
@[simp] theorem e_at0 {α : Type} {x : α} {l : List α} : atI (x :: l) 0 = some x := by
  simp [atI, ixN]
theorem at_nat {α : Type} {l : List α} {i : Nat} {x : α} (h : l[i]? = some x) : atI l (i : Int) = some x := by
  obtain ⟨hi, _⟩ := List.getElem?_eq_some_iff.mp h
  unfold atI ixN
  rw [if_pos (by omega), if_pos (by omega)]
  simpa using h
@[simp] theorem e_at1 {α : Type} {x y : α} {l : List α} : atI (x :: y :: l) 1 = some y := at_nat (i := 1) rfl
@[simp] theorem e_at2 {α : Type} {x y z : α} {l : List α} : atI (x :: y :: z :: l) 2 = some z := at_nat (i := 2) rfl
@[simp] theorem e_slT {ds : List D} {l h : Option Int} : rSl (.tup ds) l h Q = Q (.tup (cutL ds l h)) := propext Iff.rfl
@[simp] theorem e_slL {ds : List D} {l h : Option Int} : rSl (.lst ds) l h Q = Q (.lst (cutL ds l h)) := propext Iff.rfl
@[simp] theorem e_slS {z : Str} {l h : Option Int} : rSl (.str z) l h Q = Q (.str (cutS z l h)) := propext Iff.rfl
@[simp] theorem e_tail {α : Type} {x : α} {l : List α} : cutL (x :: l) (some 1) none = l := by
  have h : HT.sIx (x :: l).length 0 (some 1) = 1 := by
    have := HT.sIx_nat (x :: l).length 0 1
    simp at this
    simpa using this
  unfold cutL
  rw [h, HT.sIx_none]
  simp
@[simp] theorem e_eqS {x y : Str} : eqD (.str x) (.str y) = decide (x = y) := by
  unfold eqD
  simp only [toP, PyData.eqv]
  exact Bool.eq_iff_iff.mpr (by simp)
@[simp] theorem e_eqI {x y : Int} : eqD (.int x) (.int y) = decide (x = y) := by
  unfold eqD
  simp only [toP, PyData.eqv]
  exact Bool.eq_iff_iff.mpr (by simp)
@[simp] theorem e_depS {x : Str} : depD (.str x) = 0 := by
  unfold depD
  simp [toP, PyData.depth]
@[simp] theorem e_depI {x : Int} : depD (.int x) = 0 := by
  unfold depD
  simp [toP, PyData.depth]
@[simp] theorem e_isiS {x : Str} : isiN "str" (.str x) = true := rfl
@[simp] theorem e_isiT {x : List D} : isiN "str" (.tup x) = false := rfl
@[simp] theorem e_isiTT {x : List D} : isiN "tuple" (.tup x) = true := rfl
@[simp] theorem e_isiTS {x : Str} : isiN "tuple" (.str x) = false := rfl
@[simp] theorem e_lcN {tg : DG} {acc : List D} {R : List D → Prop} : lcD tg u a [] acc ρ R = R acc := propext Iff.rfl
@[simp] theorem e_lcC {tg : DG} {d : D} {r acc : List D} {R : List D → Prop} : lcD tg u a (d :: r) acc ρ R = tg d ρ fun ρ1 => u ρ1 (fun _ => False) fun c => if c = true then a ρ1 (fun _ => False) (fun y => acc.length < sizeLine ∧ lcD tg u a r (acc ++ [y]) ρ R) else lcD tg u a r acc ρ R := propext Iff.rfl
@[simp] theorem e_name {i : Nat} {d : D} {R : Rho → Prop} : tName i d ρ R = R (ρ.set i (some (.val d))) := propext Iff.rfl
theorem big4000 {m : Int} (h : m < 1000000) : m < 2 ^ 4000 := Int.lt_trans h (by
  have e : (2 : Int) ^ 4000 = 2 ^ 20 * 2 ^ 3980 := by rw [← Int.pow_add]
  have p : (0 : Int) < 2 ^ 3980 := Int.pow_pos (by decide)
  rw [e]
  omega)
@[simp] theorem e_draw {m : Int} (h0 : 0 < m) (h1 : m < 1000000) : m_draw [.bag, .int m] Xd Q = ∀ r : Int, 0 ≤ r → r < m → Q (.int r) := propext
  ⟨fun ⟨m', e, _, _, h⟩ => by cases e; exact h, fun h => ⟨m, rfl, h0, big4000 h1, h⟩⟩
@[simp] theorem e_repl {n : Nat} : List.replicate (n + 1) (none : Option Sl) = none :: List.replicate n none := rfl
end
section
variable {ρ : Rho} {Xd : Err → Prop} {Q : D → Prop} {a b : DE} {da : DA}
@[simp] theorem e_inT {neg : Bool} {x : D} {ds : List D} : HD.rIn neg x (.tup ds) Q = ((flatD x = true ∧ ds.all flatD = true) ∧ Q (.bl (neg ^^ ds.any fun z => eqD z x))) := propext Iff.rfl
@[simp] theorem e_inL {neg : Bool} {x : D} {ds : List D} : HD.rIn neg x (.lst ds) Q = (((flatD x = true ∧ ds.all flatD = true) ∨ deepIn x ds) ∧ Q (.bl (neg ^^ ds.any fun z => eqD z x))) := propext Iff.rfl
@[simp] theorem e_inS {neg : Bool} {c : Nat} {z : Str} : HD.rIn neg (.str ⟨#[c]⟩) (.str z) Q = Q (.bl (neg ^^ decide (c ∈ z.cps.toList))) := by
  show (∃ c', D.str ⟨#[c]⟩ = .str ⟨#[c']⟩ ∧ Q _) = _
  refine propext ⟨fun ⟨c', e, h⟩ => ?_, fun h => ⟨c, rfl, h⟩⟩
  have : c = c' := by simpa using e
  subst this
  exact h
@[simp] theorem e_inTab {neg : Bool} {tab : List (Str × D)} : dInTab neg tab a ρ Xd Q = a ρ Xd fun x => ∃ s, x = .str s ∧ Q (.bl (neg ^^ (tab.lookup s).isSome)) := propext Iff.rfl
theorem e_ixTab {tab : List (Str × D)} : dIxTab tab a ρ Xd Q = a ρ Xd fun x => ∃ s, x = .str s ∧ ∃ d, tab.lookup s = some d ∧ Q d := by
  unfold dIxTab
  congr 1
  funext x
  refine propext ⟨fun ⟨s, d, h1, h2, h3⟩ => ⟨s, h1, d, h2, h3⟩, fun ⟨s, h1, d, h2, h3⟩ => ⟨s, d, h1, h2, h3⟩⟩
theorem e_n2 : ((2 : Nat) : Int) = 2 := rfl
theorem e_n3 : ((3 : Nat) : Int) = 3 := rfl
theorem e_n4 : ((4 : Nat) : Int) = 4 := rfl
theorem e_ln0 : (0 < sizeLine) = True := eq_true (by decide)
theorem e_ln1 : (1 < sizeLine) = True := eq_true (by decide)
theorem e_eqv {x y : D} : HD.rEq x y Q = (okD x = true ∧ okD y = true ∧ min (depD x) (depD y) ≤ 190 ∧ Q (.bl (eqD x y))) := propext Iff.rfl
theorem e_nev {x y : D} : HD.rNe x y Q = (okD x = true ∧ okD y = true ∧ min (depD x) (depD y) ≤ 190 ∧ Q (.bl (!eqD x y))) := propext Iff.rfl
theorem e_starts : dStarts a da ρ Xd Q = a ρ Xd fun x => ∃ s, x = .str s ∧ da ρ Xd fun ys => ∃ t i, ys = [.str t, .int i] ∧ Q (.bl (Txt.startswith3 s t i)) := propext Iff.rfl
theorem e_st2 {a : Str} {j : Int} {P : Str → Int → Prop} : (∃ t i, [D.str a, D.int j] = [D.str t, D.int i] ∧ P t i) = P a j := propext ⟨fun ⟨t, i, e, h⟩ => by cases e; exact h, fun h => ⟨a, j, rfl, h⟩⟩
theorem i_str_S {x : Str} : isiN "str" (.str x) = true := rfl
theorem i_str_T {x : List D} : isiN "str" (.tup x) = false := rfl
theorem i_str_L {x : List D} : isiN "str" (.lst x) = false := rfl
theorem i_str_I {x : Int} : isiN "str" (.int x) = false := rfl
theorem i_int_S {x : Str} : isiN "int" (.str x) = false := rfl
theorem i_int_T {x : List D} : isiN "int" (.tup x) = false := rfl
theorem i_int_L {x : List D} : isiN "int" (.lst x) = false := rfl
theorem i_int_I {x : Int} : isiN "int" (.int x) = true := rfl
theorem i_bool_S {x : Str} : isiN "bool" (.str x) = false := rfl
theorem i_bool_T {x : List D} : isiN "bool" (.tup x) = false := rfl
theorem i_bool_L {x : List D} : isiN "bool" (.lst x) = false := rfl
theorem i_bool_I {x : Int} : isiN "bool" (.int x) = false := rfl
theorem i_list_S {x : Str} : isiN "list" (.str x) = false := rfl
theorem i_list_T {x : List D} : isiN "list" (.tup x) = false := rfl
theorem i_list_L {x : List D} : isiN "list" (.lst x) = true := rfl
theorem i_list_I {x : Int} : isiN "list" (.int x) = false := rfl
theorem i_tuple_S {x : Str} : isiN "tuple" (.str x) = false := rfl
theorem i_tuple_T {x : List D} : isiN "tuple" (.tup x) = true := rfl
theorem i_tuple_L {x : List D} : isiN "tuple" (.lst x) = false := rfl
theorem i_tuple_I {x : Int} : isiN "tuple" (.int x) = false := rfl
theorem i_dict_S {x : Str} : isiN "dict" (.str x) = false := rfl
theorem i_dict_T {x : List D} : isiN "dict" (.tup x) = false := rfl
theorem i_dict_L {x : List D} : isiN "dict" (.lst x) = false := rfl
theorem i_dict_I {x : Int} : isiN "dict" (.int x) = false := rfl
theorem e_ty_int : ("int" ∈ plainTys) = True := eq_true (by decide)
theorem e_ty_bool : ("bool" ∈ plainTys) = True := eq_true (by decide)
theorem e_ty_list : ("list" ∈ plainTys) = True := eq_true (by decide)
theorem e_ty_dict : ("dict" ∈ plainTys) = True := eq_true (by decide)
theorem e_isi2 {n m : String} : dIsi2 n m a ρ Xd Q = a ρ Xd fun d => isPl d = true ∧ Q (.bl (isiN n d || isiN m d)) := propext Iff.rfl
theorem e_pl3 {l : List D} : isPl (.lst l) = true := rfl
theorem e_pl4 {l : Int} : isPl (.int l) = true := rfl
theorem e_eqB {x y : Bool} : eqD (.bl x) (.bl y) = decide (x = y) := by
  cases x <;> cases y <;> simp [eqD, toP, PyData.eqv]
theorem e_depB {x : Bool} : depD (.bl x) = 0 := by
  simp [depD, toP, PyData.depth]
theorem e_ok3 {i : Bool} : okD (.bl i) = true := rfl
theorem e_r2 : intsD 0 (Int.toNat 2) = [.int 0, .int 1] := rfl
theorem e_r3 : intsD 0 (Int.toNat 3) = [.int 0, .int 1, .int 2] := rfl
theorem e_r0 : intsD 0 (Int.toNat 0) = [] := rfl
theorem e_for {di : DI} {tg : DG} {db : DS} {De : DEnds} : dFor di tg db De ρ = di ρ (De.ex ρ) fun ds => forD tg db ds De ρ := propext Iff.rfl
theorem e_forN {tg : DG} {db : DS} {De : DEnds} : forD tg db [] De ρ = De.nx ρ := propext Iff.rfl
theorem e_forC {tg : DG} {db : DS} {De : DEnds} {d : D} {r : List D} : forD tg db (d :: r) De ρ = tg d ρ fun ρ1 => db { De with nx := forD tg db r De, ct := forD tg db r De, bk := De.nx } ρ1 := propext Iff.rfl
theorem e_i1 {j : Int} {R : Int → Prop} : (∃ i, [D.int j] = [D.int i] ∧ R i) = R j := propext ⟨fun ⟨i, e, h⟩ => by cases e; exact h, fun h => ⟨j, rfl, h⟩⟩
theorem e_p2 : (2 : Int) ^ 62 = 4611686018427387904 := by decide
theorem e_n0 : ((0 : Nat) : Int) = 0 := rfl
theorem e_pl1 {s : Str} : isPl (.str s) = true := rfl
theorem e_pl2 {l : List D} : isPl (.tup l) = true := rfl
theorem e_ty1 : ("str" ∈ plainTys) = True := eq_true (by decide)
theorem e_ty2 : ("tuple" ∈ plainTys) = True := eq_true (by decide)
theorem e_ok1 {s : Str} : okD (.str s) = true := rfl
theorem e_ok2 {i : Int} : okD (.int i) = true := rfl
theorem e_min : (min (0 : Nat) 0 ≤ 190) = True := eq_true (by decide)
theorem e_one : (1 ≤ sizeLine) = True := eq_true (by decide)
theorem e_two : (2 ≤ sizeLine) = True := eq_true (by decide)
theorem e_three : (3 ≤ sizeLine) = True := eq_true (by decide)
theorem e_is {x : D} : HD.rIs x .non Q = Q (.bl (isNoneD x)) := by
  unfold HD.rIs
  simp
theorem e_isNot {x : D} : HD.rIsNot x .non Q = Q (.bl (!isNoneD x)) := by
  unfold HD.rIsNot
  simp
theorem e_nnT {l : List D} : isNoneD (.tup l) = false := rfl
theorem e_nnS {l : Str} : isNoneD (.str l) = false := rfl
theorem e_fl1 {s : Str} : flatD (.str s) = true := rfl
theorem e_fl2 {s : Int} : flatD (.int s) = true := rfl
theorem e_fl3 : flatD .non = true := rfl
theorem t_var_pair : decide ((Str.ofString "var") = Str.ofString "pair") = false := by decide +kernel
theorem t_var_box : decide ((Str.ofString "var") = Str.ofString "box") = false := by decide +kernel
theorem t_var_half : decide ((Str.ofString "var") = Str.ofString "half") = false := by decide +kernel
theorem t_var_shut : decide ((Str.ofString "var") = Str.ofString "shut") = false := by decide +kernel
theorem t_var_mark : decide ((Str.ofString "var") = Str.ofString "mark") = false := by decide +kernel
theorem t_var_mix : decide ((Str.ofString "var") = Str.ofString "mix") = false := by decide +kernel
theorem t_pair_var : decide ((Str.ofString "pair") = Str.ofString "var") = false := by decide +kernel
theorem t_pair_box : decide ((Str.ofString "pair") = Str.ofString "box") = false := by decide +kernel
theorem t_pair_half : decide ((Str.ofString "pair") = Str.ofString "half") = false := by decide +kernel
theorem t_pair_shut : decide ((Str.ofString "pair") = Str.ofString "shut") = false := by decide +kernel
theorem t_pair_mark : decide ((Str.ofString "pair") = Str.ofString "mark") = false := by decide +kernel
theorem t_pair_mix : decide ((Str.ofString "pair") = Str.ofString "mix") = false := by decide +kernel
theorem t_box_var : decide ((Str.ofString "box") = Str.ofString "var") = false := by decide +kernel
theorem t_box_pair : decide ((Str.ofString "box") = Str.ofString "pair") = false := by decide +kernel
theorem t_box_half : decide ((Str.ofString "box") = Str.ofString "half") = false := by decide +kernel
theorem t_box_shut : decide ((Str.ofString "box") = Str.ofString "shut") = false := by decide +kernel
theorem t_box_mark : decide ((Str.ofString "box") = Str.ofString "mark") = false := by decide +kernel
theorem t_box_mix : decide ((Str.ofString "box") = Str.ofString "mix") = false := by decide +kernel
theorem t_half_var : decide ((Str.ofString "half") = Str.ofString "var") = false := by decide +kernel
theorem t_half_pair : decide ((Str.ofString "half") = Str.ofString "pair") = false := by decide +kernel
theorem t_half_box : decide ((Str.ofString "half") = Str.ofString "box") = false := by decide +kernel
theorem t_half_shut : decide ((Str.ofString "half") = Str.ofString "shut") = false := by decide +kernel
theorem t_half_mark : decide ((Str.ofString "half") = Str.ofString "mark") = false := by decide +kernel
theorem t_half_mix : decide ((Str.ofString "half") = Str.ofString "mix") = false := by decide +kernel
theorem t_shut_var : decide ((Str.ofString "shut") = Str.ofString "var") = false := by decide +kernel
theorem t_shut_pair : decide ((Str.ofString "shut") = Str.ofString "pair") = false := by decide +kernel
theorem t_shut_box : decide ((Str.ofString "shut") = Str.ofString "box") = false := by decide +kernel
theorem t_shut_half : decide ((Str.ofString "shut") = Str.ofString "half") = false := by decide +kernel
theorem t_shut_mark : decide ((Str.ofString "shut") = Str.ofString "mark") = false := by decide +kernel
theorem t_shut_mix : decide ((Str.ofString "shut") = Str.ofString "mix") = false := by decide +kernel
theorem t_mark_var : decide ((Str.ofString "mark") = Str.ofString "var") = false := by decide +kernel
theorem t_mark_pair : decide ((Str.ofString "mark") = Str.ofString "pair") = false := by decide +kernel
theorem t_mark_box : decide ((Str.ofString "mark") = Str.ofString "box") = false := by decide +kernel
theorem t_mark_half : decide ((Str.ofString "mark") = Str.ofString "half") = false := by decide +kernel
theorem t_mark_shut : decide ((Str.ofString "mark") = Str.ofString "shut") = false := by decide +kernel
theorem t_mark_mix : decide ((Str.ofString "mark") = Str.ofString "mix") = false := by decide +kernel
theorem t_mix_var : decide ((Str.ofString "mix") = Str.ofString "var") = false := by decide +kernel
theorem t_mix_pair : decide ((Str.ofString "mix") = Str.ofString "pair") = false := by decide +kernel
theorem t_mix_box : decide ((Str.ofString "mix") = Str.ofString "box") = false := by decide +kernel
theorem t_mix_half : decide ((Str.ofString "mix") = Str.ofString "half") = false := by decide +kernel
theorem t_mix_shut : decide ((Str.ofString "mix") = Str.ofString "shut") = false := by decide +kernel
theorem t_mix_mark : decide ((Str.ofString "mix") = Str.ofString "mark") = false := by decide +kernel
end
/-! ### texts as lists of signs -/
def St (l : List Nat) : Str := ⟨l.toArray⟩
theorem St_app (a b : List Nat) : St a ++ St b = St (a ++ b) := by
  show Str.append _ _ = _
  simp [Str.append, St]
theorem St_len (a : List Nat) : (St a).length = a.length := by
  simp [St, Str.length]
theorem St_cps (a : List Nat) : (St a).cps.toList = a := by simp [St]
theorem St_inj {a b : List Nat} : St a = St b ↔ a = b := by
  constructor
  · intro h
    have := congrArg (fun s : Str => s.cps.toList) h
    simpa [St_cps] using this
  · rintro rfl
    rfl
end HD
/-! HM2: terms, their wordings, texts at places. -/
namespace HD
open PySem PyProof.Rows L2
theorem lc_all {tg : DG} {u : DT} {a : DE} {ρ : Rho} {R : List D → Prop} (f : D → D) : ∀ (ds acc : List D), (∀ d ∈ ds, ∀ (S : D → Prop) (N : Prop), S (f d) → tg d ρ fun ρ1 => u ρ1 (fun _ => False) fun c => if c = true then a ρ1 (fun _ => False) S else N) →
    acc.length + ds.length ≤ sizeLine → R (acc ++ ds.map f) → lcD tg u a ds acc ρ R
  | [], acc, _, _, h => by simpa using h
  | d :: r, acc, hf, hl, h => by
    refine hf d (List.mem_cons_self ..) (fun y => acc.length < sizeLine ∧ lcD tg u a r (acc ++ [y]) ρ R) _ ⟨?_, ?_⟩
    · simp at hl
      omega
    · refine lc_all f r (acc ++ [f d]) (fun d' hd => hf d' (List.mem_cons_of_mem _ hd)) ?_ ?_
      · simp at hl ⊢
        omega
      · simpa using h
def isNm (s : List Nat) : Prop := 1 ≤ s.length ∧ s.length ≤ 8 ∧ ∀ c ∈ s, 97 ≤ c ∧ c ≤ 122
inductive Tm where
  | nm (s : List Nat)
  | pair (a b : Tm)
  | box (k b : Tm)
  | half (s : List Nat)
  | shut (s : List Nat) (a : Tm)
  | mark (s : List Nat) (a : Tm)
  | mix (a : Tm)
deriving DecidableEq
namespace Tm
def d : Tm → D
  | nm s => .str (St s)
  | pair a b => .tup [.str "pair", a.d, b.d]
  | box a b => .tup [.str "box", a.d, b.d]
  | half s => .tup [.str "half", .str (St s)]
  | shut s a => .tup [.str "shut", .str (St s), a.d]
  | mark s a => .tup [.str "mark", .str (St s), a.d]
  | mix a => .tup [.str "mix", a.d]
def key (w : List Nat) : Tm → List Nat
  | nm _ => w
  | _ => [60] ++ w ++ [62]
def wd : Tm → List Nat
  | nm s => s
  | pair a b => [40] ++ a.wd ++ [32, 38, 32] ++ b.wd ++ [41]
  | box a b => [91] ++ b.wd ++ [93] ++ key a.wd a
  | half s => [104, 97, 108, 102, 32] ++ s
  | shut s a => [123] ++ a.wd ++ [125] ++ s
  | mark s a => [40] ++ a.wd ++ [33] ++ s ++ [41]
  | mix a => [109, 105, 120, 40] ++ a.wd ++ [41]
def ok : Tm → Prop
  | nm s => isNm s
  | pair a b => a.ok ∧ b.ok
  | box a b => a.ok ∧ b.ok
  | half s => isNm s
  | shut s a => isNm s ∧ a.ok
  | mark s a => isNm s ∧ a.ok
  | mix a => a.ok
def size : Tm → Int
  | nm _ => 1
  | pair a b => a.size + b.size
  | box a b => a.size + b.size
  | half _ => 1
  | shut _ a => 1 + a.size
  | mark _ a => 1 + a.size
  | mix a => a.size
def depth : Tm → Int
  | nm _ => 1
  | pair a b => 1 + max a.depth b.depth
  | box a b => 1 + max a.depth b.depth
  | half _ => 2
  | shut _ a => 1 + max 1 a.depth
  | mark _ a => 1 + max 1 a.depth
  | mix a => 1 + a.depth
theorem dpos : ∀ t : Tm, 1 ≤ t.depth
  | nm _ => by simp [depth]
  | pair a b => by simp only [depth]; have := dpos a; omega
  | box a b => by simp only [depth]; have := dpos a; omega
  | half _ => by simp [depth]
  | shut _ a => by simp only [depth]; omega
  | mark _ a => by simp only [depth]; omega
  | mix a => by simp only [depth]; have := dpos a; omega
theorem okd : ∀ t : Tm, okD t.d = true
  | nm _ => by simp [d, okD]
  | pair a b => by simp [d, okD, okDs, okd a, okd b]
  | box a b => by simp [d, okD, okDs, okd a, okd b]
  | half _ => by simp [d, okD, okDs]
  | shut _ a => by simp [d, okD, okDs, okd a]
  | mark _ a => by simp [d, okD, okDs, okd a]
  | mix a => by simp [d, okD, okDs, okd a]
theorem plain : ∀ t : Tm, isPl t.d = true := fun t => by cases t <;> rfl
/-- all signs small -/
theorem signs : ∀ t : Tm, t.ok → ∀ c ∈ t.wd, c < 200
  | nm s, h, c, hc => by have := (h.2.2 c hc).2; omega
  | pair a b, h, c, hc => by
    have ha := signs a h.1 c
    have hb := signs b h.2 c
    simp only [wd, List.mem_append, List.mem_cons, List.not_mem_nil, or_false] at hc
    rcases hc with ((((rfl | hc) | rfl | rfl | rfl) | hc) | rfl) <;> first | omega | exact ha hc | exact hb hc
  | box a b, h, c, hc => by
    have ha := signs a h.1 c
    have hb := signs b h.2 c
    simp only [wd, List.mem_append, List.mem_cons, List.not_mem_nil, or_false] at hc
    rcases hc with (((rfl | hc) | rfl) | hc)
    · omega
    · exact hb hc
    · omega
    · cases a <;> simp only [key, List.mem_append, List.mem_cons, List.not_mem_nil, or_false] at hc <;>
        first | exact ha hc | (rcases hc with ((rfl | hc) | rfl) <;> first | omega | exact ha hc)
  | half s, h, c, hc => by
    simp only [wd, List.mem_append, List.mem_cons, List.not_mem_nil, or_false] at hc
    rcases hc with ((rfl | rfl | rfl | rfl | rfl) | hc) <;> first | omega | (have := (h.2.2 c hc).2; omega)
  | shut s a, h, c, hc => by
    have ha := signs a h.2 c
    simp only [wd, List.mem_append, List.mem_cons, List.not_mem_nil, or_false] at hc
    rcases hc with (((rfl | hc) | rfl) | hc) <;> first | omega | exact ha hc | (have := (h.1.2.2 c hc).2; omega)
  | mark s a, h, c, hc => by
    have ha := signs a h.2 c
    simp only [wd, List.mem_append, List.mem_cons, List.not_mem_nil, or_false] at hc
    rcases hc with ((((rfl | hc) | rfl) | hc) | rfl) <;> first | omega | exact ha hc | (have := (h.1.2.2 c hc).2; omega)
  | mix a, h, c, hc => by
    have ha := signs a h c
    simp only [wd, List.mem_append, List.mem_cons, List.not_mem_nil, or_false] at hc
    rcases hc with (((rfl | rfl | rfl | rfl) | hc) | rfl) <;> first | omega | exact ha hc
theorem width : ∀ (t : Tm) (n : Nat), t.ok → t.depth ≤ n → t.wd.length + 8 ≤ 16 * 2 ^ n
  | nm s, n, h, hd => by
    have : n ≠ 0 := by rintro rfl; simp [depth] at hd
    obtain ⟨n, rfl⟩ := Nat.exists_eq_succ_of_ne_zero this
    have := h.2.1
    have := Nat.pow_pos (n := n) (show 0 < 2 by decide)
    simp only [wd, Nat.pow_succ]
    omega
  | pair a b, n, h, hd => by
    simp only [depth] at hd
    have := dpos a
    obtain ⟨n, rfl⟩ := Nat.exists_eq_succ_of_ne_zero (show n ≠ 0 by omega)
    have h1 := width a n h.1 (by omega)
    have h2 := width b n h.2 (by omega)
    simp only [wd, Nat.pow_succ, List.length_append, List.length_cons, List.length_nil]
    omega
  | box a b, n, h, hd => by
    simp only [depth] at hd
    have := dpos a
    obtain ⟨n, rfl⟩ := Nat.exists_eq_succ_of_ne_zero (show n ≠ 0 by omega)
    have h1 := width a n h.1 (by omega)
    have h2 := width b n h.2 (by omega)
    have h3 : (key a.wd a).length ≤ a.wd.length + 2 := by cases a <;> simp [key]
    simp only [wd, Nat.pow_succ, List.length_append, List.length_cons, List.length_nil]
    omega
  | half s, n, h, hd => by
    simp only [depth] at hd
    obtain ⟨n, rfl⟩ := Nat.exists_eq_succ_of_ne_zero (show n ≠ 0 by omega)
    obtain ⟨n, rfl⟩ := Nat.exists_eq_succ_of_ne_zero (show n ≠ 0 by omega)
    have := h.2.1
    have := Nat.pow_pos (n := n) (show 0 < 2 by decide)
    simp only [wd, Nat.pow_succ, List.length_append, List.length_cons, List.length_nil]
    omega
  | shut s a, n, h, hd => by
    simp only [depth] at hd
    obtain ⟨n, rfl⟩ := Nat.exists_eq_succ_of_ne_zero (show n ≠ 0 by omega)
    have h1 := width a n h.2 (by omega)
    have := h.1.2.1
    simp only [wd, Nat.pow_succ, List.length_append, List.length_cons, List.length_nil]
    omega
  | mark s a, n, h, hd => by
    simp only [depth] at hd
    obtain ⟨n, rfl⟩ := Nat.exists_eq_succ_of_ne_zero (show n ≠ 0 by omega)
    have h1 := width a n h.2 (by omega)
    have := h.1.2.1
    simp only [wd, Nat.pow_succ, List.length_append, List.length_cons, List.length_nil]
    omega
  | mix a, n, h, hd => by
    simp only [depth] at hd
    have := dpos a
    obtain ⟨n, rfl⟩ := Nat.exists_eq_succ_of_ne_zero (show n ≠ 0 by omega)
    have h1 := width a n h (by omega)
    simp only [wd, Nat.pow_succ, List.length_append, List.length_cons, List.length_nil]
    omega
theorem okS_St {l : List Nat} (h : l.length ≤ 1000000) (hc : ∀ c ∈ l, c < 200) : okS (St l) := by
  refine ⟨?_, ?_⟩
  · rw [St_len]
    exact Nat.le_trans h (by decide)
  · unfold PyData.strOk
    rw [← Array.all_toList, St_cps]
    exact List.all_eq_true.mpr fun c hx => by
      have := hc c hx
      simp
      omega
theorem okw {t : Tm} (h : t.ok) (hd : t.depth ≤ 12) : okS (St t.wd) := by
  refine okS_St ?_ (signs t h)
  have := width t 12 h hd
  omega
end Tm
theorem okS_pre {a b : List Nat} (h : okS (St (a ++ b))) : okS (St a) := okS_sub h (by rw [St_len, St_len, List.length_append]; omega) fun c hc => by
  rw [St_cps] at hc ⊢
  exact List.mem_append_left _ hc
theorem okS_suf {a b : List Nat} (h : okS (St (a ++ b))) : okS (St b) := okS_sub h (by rw [St_len, St_len, List.length_append]; omega) fun c hc => by
  rw [St_cps] at hc ⊢
  exact List.mem_append_right _ hc
/-! ### a text at a place -/
theorem starts_at {p r m : List Nat} : Txt.startswith3 (St (p ++ r)) (St m) (p.length : Int) = m.isPrefixOf r := by
  have e : fromIndex (St (p ++ r)).length (p.length : Int) = p.length := by
    unfold fromIndex
    rw [if_neg (by omega)]
    omega
  unfold Txt.startswith3
  rw [e, St_len, St_len, List.length_append]
  have e2 : PySem.Builtin.Str.subAt (St (p ++ r)) (St m) p.length = decide (r.take m.length = m) := by
    unfold PySem.Builtin.Str.subAt
    rw [St_len]
    refine Bool.eq_iff_iff.mpr ?_
    rw [beq_iff_eq, decide_eq_true_eq, ← Array.toList_inj]
    simp [St]
  refine Bool.eq_iff_iff.mpr ?_
  rw [e2, Bool.and_eq_true_iff, decide_eq_true_eq, decide_eq_true_eq, List.isPrefixOf_iff_prefix]
  constructor
  · rintro ⟨_, h⟩
    exact ⟨r.drop m.length, by conv => lhs; lhs; rw [← h]
                               exact List.take_append_drop _ _⟩
  · rintro ⟨z, rfl⟩
    simp
theorem cut_at {p w q : List Nat} : cutS (St (p ++ w ++ q)) (some (p.length : Int)) (some ((p.length : Int) + (w.length : Int))) = St w := by
  unfold cutS
  have e2 : ((p.length : Int) + (w.length : Int)) = ((p.length + w.length : Nat) : Int) := by omega
  rw [e2, HT.sIx_nat, HT.sIx_nat, St_len, St_cps]
  simp only [List.length_append]
  rw [Nat.min_eq_left (by omega), Nat.min_eq_left (by omega), List.append_assoc, List.drop_left, Nat.add_sub_cancel_left, List.take_left]
  rfl
end HD
/-! HM3: patterns. -/
namespace HD
open PySem PyProof.Rows L2
inductive Lf where
  | nm (s : List Nat)
  | vr (s : List Nat)
  deriving DecidableEq
namespace Lf
def d : Lf → D
  | nm s => .str (St s)
  | vr s => .tup [.str "var", .str (St s)]
def wd : Lf → List Nat
  | nm s => s
  | vr s => 63 :: s
def ok : Lf → Prop
  | nm s => isNm s
  | vr s => isNm s
def shut : Lf → Bool
  | nm _ => true
  | vr _ => false
theorem signs {l : Lf} (h : l.ok) : ∀ c ∈ l.wd, c < 200 := by
  cases l with
  | nm s => exact fun c hc => by have := (h.2.2 c hc).2; omega
  | vr s =>
    intro c hc
    rcases List.mem_cons.mp hc with rfl | hc
    · omega
    · have := (h.2.2 c hc).2
      omega
theorem len {l : Lf} (h : l.ok) : 1 ≤ l.wd.length ∧ l.wd.length ≤ 9 := by
  cases l with
  | nm s => exact ⟨h.1, Nat.le_succ_of_le h.2.1⟩
  | vr s =>
    have := h.2.1
    simp only [wd, List.length_cons]
    omega
end Lf
inductive Pt where
  | lf (l : Lf)
  | pair (a b : Pt)
  | box (k b : Pt)
  | half (l : Lf)
  | shut (l : Lf) (a : Pt)
  | mark (l : Lf) (a : Pt)
  | mix (a : Pt)
  deriving DecidableEq
namespace Pt
def d : Pt → D
  | lf l => l.d
  | pair a b => .tup [.str "pair", a.d, b.d]
  | box a b => .tup [.str "box", a.d, b.d]
  | half l => .tup [.str "half", l.d]
  | shut l a => .tup [.str "shut", l.d, a.d]
  | mark l a => .tup [.str "mark", l.d, a.d]
  | mix a => .tup [.str "mix", a.d]
def key (w : List Nat) : Pt → List Nat
  | lf _ => w
  | _ => [60] ++ w ++ [62]
def wd : Pt → List Nat
  | lf l => l.wd
  | pair a b => [40] ++ a.wd ++ [32, 38, 32] ++ b.wd ++ [41]
  | box a b => [91] ++ b.wd ++ [93] ++ key a.wd a
  | half l => [104, 97, 108, 102, 32] ++ l.wd
  | shut l a => [123] ++ a.wd ++ [125] ++ l.wd
  | mark l a => [40] ++ a.wd ++ [33] ++ l.wd ++ [41]
  | mix a => [109, 105, 120, 40] ++ a.wd ++ [41]
def ok : Pt → Prop
  | lf l => l.ok
  | pair a b => a.ok ∧ b.ok
  | box a b => a.ok ∧ b.ok
  | half l => l.ok
  | shut l a => l.ok ∧ a.ok
  | mark l a => l.ok ∧ a.ok
  | mix a => a.ok
/-- no variable in it -/
def cl : Pt → Bool
  | lf l => l.shut
  | pair a b => a.cl && b.cl
  | box a b => a.cl && b.cl
  | half l => l.shut
  | shut l a => l.shut && a.cl
  | mark l a => l.shut && a.cl
  | mix a => a.cl
def size : Pt → Int
  | lf _ => 1
  | pair a b => a.size + b.size
  | box a b => a.size + b.size
  | half _ => 1
  | shut _ a => 1 + a.size
  | mark _ a => 1 + a.size
  | mix a => a.size
def depth : Pt → Int
  | lf _ => 1
  | pair a b => 1 + max a.depth b.depth
  | box a b => 1 + max a.depth b.depth
  | half _ => 2
  | shut _ a => 1 + max 1 a.depth
  | mark _ a => 1 + max 1 a.depth
  | mix a => 1 + a.depth
theorem dpos : ∀ t : Pt, 1 ≤ t.depth
  | lf _ => by simp [depth]
  | pair a b => by simp only [depth]; have := dpos a; omega
  | box a b => by simp only [depth]; have := dpos a; omega
  | half _ => by simp [depth]
  | shut _ a => by simp only [depth]; omega
  | mark _ a => by simp only [depth]; omega
  | mix a => by simp only [depth]; have := dpos a; omega
theorem lfok (l : Lf) : okD l.d = true := by cases l <;> simp [Lf.d, okD, okDs]
theorem okd : ∀ t : Pt, okD t.d = true
  | lf l => lfok l
  | pair a b => by simp [d, okD, okDs, okd a, okd b]
  | box a b => by simp [d, okD, okDs, okd a, okd b]
  | half l => by simp [d, okD, okDs, lfok l]
  | shut l a => by simp [d, okD, okDs, okd a, lfok l]
  | mark l a => by simp [d, okD, okDs, okd a, lfok l]
  | mix a => by simp [d, okD, okDs, okd a]
theorem plain : ∀ t : Pt, isPl t.d = true := fun t => by
  cases t with
  | lf l => cases l <;> rfl
  | _ => rfl
theorem signs : ∀ t : Pt, t.ok → ∀ c ∈ t.wd, c < 200
  | lf l, h, c, hc => Lf.signs h c hc
  | pair a b, h, c, hc => by
    have ha := signs a h.1 c
    have hb := signs b h.2 c
    simp only [wd, List.mem_append, List.mem_cons, List.not_mem_nil, or_false] at hc
    rcases hc with ((((rfl | hc) | rfl | rfl | rfl) | hc) | rfl) <;> first | omega | exact ha hc | exact hb hc
  | box a b, h, c, hc => by
    have ha := signs a h.1 c
    have hb := signs b h.2 c
    simp only [wd, List.mem_append, List.mem_cons, List.not_mem_nil, or_false] at hc
    rcases hc with (((rfl | hc) | rfl) | hc)
    · omega
    · exact hb hc
    · omega
    · cases a <;> simp only [key, List.mem_append, List.mem_cons, List.not_mem_nil, or_false] at hc <;>
        first | exact ha hc | (rcases hc with ((rfl | hc) | rfl) <;> first | omega | exact ha hc)
  | half s, h, c, hc => by
    simp only [wd, List.mem_append, List.mem_cons, List.not_mem_nil, or_false] at hc
    rcases hc with ((rfl | rfl | rfl | rfl | rfl) | hc) <;> first | omega | exact Lf.signs h c hc
  | shut s a, h, c, hc => by
    have ha := signs a h.2 c
    simp only [wd, List.mem_append, List.mem_cons, List.not_mem_nil, or_false] at hc
    rcases hc with (((rfl | hc) | rfl) | hc) <;> first | omega | exact ha hc | exact Lf.signs h.1 c hc
  | mark s a, h, c, hc => by
    have ha := signs a h.2 c
    simp only [wd, List.mem_append, List.mem_cons, List.not_mem_nil, or_false] at hc
    rcases hc with ((((rfl | hc) | rfl) | hc) | rfl) <;> first | omega | exact ha hc | exact Lf.signs h.1 c hc
  | mix a, h, c, hc => by
    have ha := signs a h c
    simp only [wd, List.mem_append, List.mem_cons, List.not_mem_nil, or_false] at hc
    rcases hc with (((rfl | rfl | rfl | rfl) | hc) | rfl) <;> first | omega | exact ha hc
theorem width : ∀ (t : Pt) (n : Nat), t.ok → t.depth ≤ n → t.wd.length + 8 ≤ 16 * 2 ^ n
  | lf l, n, h, hd => by
    simp only [depth] at hd
    obtain ⟨n, rfl⟩ := Nat.exists_eq_succ_of_ne_zero (show n ≠ 0 by omega)
    have := (Lf.len h).2
    have := Nat.pow_pos (n := n) (show 0 < 2 by decide)
    simp only [wd, Nat.pow_succ]
    omega
  | pair a b, n, h, hd => by
    simp only [depth] at hd
    have := dpos a
    obtain ⟨n, rfl⟩ := Nat.exists_eq_succ_of_ne_zero (show n ≠ 0 by omega)
    have h1 := width a n h.1 (by omega)
    have h2 := width b n h.2 (by omega)
    simp only [wd, Nat.pow_succ, List.length_append, List.length_cons, List.length_nil]
    omega
  | box a b, n, h, hd => by
    simp only [depth] at hd
    have := dpos a
    obtain ⟨n, rfl⟩ := Nat.exists_eq_succ_of_ne_zero (show n ≠ 0 by omega)
    have h1 := width a n h.1 (by omega)
    have h2 := width b n h.2 (by omega)
    have h3 : (key a.wd a).length ≤ a.wd.length + 2 := by cases a <;> simp [key]
    simp only [wd, Nat.pow_succ, List.length_append, List.length_cons, List.length_nil]
    omega
  | half l, n, h, hd => by
    simp only [depth] at hd
    obtain ⟨n, rfl⟩ := Nat.exists_eq_succ_of_ne_zero (show n ≠ 0 by omega)
    obtain ⟨n, rfl⟩ := Nat.exists_eq_succ_of_ne_zero (show n ≠ 0 by omega)
    have := (Lf.len h).2
    have := Nat.pow_pos (n := n) (show 0 < 2 by decide)
    simp only [wd, Nat.pow_succ, List.length_append, List.length_cons, List.length_nil]
    omega
  | shut l a, n, h, hd => by
    simp only [depth] at hd
    obtain ⟨n, rfl⟩ := Nat.exists_eq_succ_of_ne_zero (show n ≠ 0 by omega)
    have h1 := width a n h.2 (by omega)
    have := (Lf.len h.1).2
    have := Nat.pow_pos (n := n) (show 0 < 2 by decide)
    simp only [wd, Nat.pow_succ, List.length_append, List.length_cons, List.length_nil]
    omega
  | mark l a, n, h, hd => by
    simp only [depth] at hd
    obtain ⟨n, rfl⟩ := Nat.exists_eq_succ_of_ne_zero (show n ≠ 0 by omega)
    have h1 := width a n h.2 (by omega)
    have := (Lf.len h.1).2
    have := Nat.pow_pos (n := n) (show 0 < 2 by decide)
    simp only [wd, Nat.pow_succ, List.length_append, List.length_cons, List.length_nil]
    omega
  | mix a, n, h, hd => by
    simp only [depth] at hd
    have := dpos a
    obtain ⟨n, rfl⟩ := Nat.exists_eq_succ_of_ne_zero (show n ≠ 0 by omega)
    have h1 := width a n h (by omega)
    simp only [wd, Nat.pow_succ, List.length_append, List.length_cons, List.length_nil]
    omega
theorem okw {t : Pt} (h : t.ok) (hd : t.depth ≤ 12) : okS (St t.wd) := by
  refine Tm.okS_St ?_ (signs t h)
  have := width t 12 h hd
  omega
end Pt
end HD
/-! HO1: objects of own classes: fields, stores, methods, properties, construction, over data. -/
namespace HD
open PySem PySem.Spec PyProof.Rows L2
section
variable {X : Cx} {CX : CXT} {k : Nat} {f C : Addr} {fd : FuncData} {ps : List Str} {sp : Sp} {E : L2.St → XK} {x m : Str} {p pos apos : Pos} {e o : Expr} {es : List Expr} {ta : TE} {t : TA}
/-! ### the kit's rules with what is raised wished for at the slots -/
def tMethS (C : Addr) (m : Str) (sp : Sp) (E : L2.St → XK) (ta : TE) (t : TA) : TE := fun σ H Q => ta σ H fun x H1 => ∃ a dx fs, x = .ref a ∧ H1 a = some (.ins C dx fs) ∧ fs.lookup m = none ∧ t σ H1 fun vs H2 => sp (x :: vs) H2 Q (E σ)
def tMakeS (C : Addr) (sp : Sp) (E : L2.St → XK) (t : TA) : TE := fun σ H Q => t σ H fun vs H1 => ∀ x dx, H1 x = none → H1 dx = none → dx ≠ x → sp (.ref x :: vs) (upd (upd H1 dx (.own x)) x (.ins C dx [])) (fun v H2 => v = .non ∧ Q (.ref x) H2) (E σ)
end
section
variable {B : Bg} {O O' : Addr → Prop} {K : PySem.W.Frag} {H : Hp}
/-! ### fields -/
end
section
variable {X : Cx} {F : Fx} {Cl : Str → Addr} {W : WX} {B : Bg}
/-- e.f, e an object of class c -/
def dFld (c f : Str) (de : DE) : DE := fun ρ Xd Q => de ρ Xd fun d => ∃ fs x, d = .obj c fs ∧ fs.lookup f = some x ∧ Q x
/-- the object that a constructor fills: it stands at x -/
def slf (x : Addr) (c : Str) (fs : List (Str × D)) : D := .duo (.obj c fs) (.ref x) (.raw x)
/-- x.f, x such an object -/
def dFldO (i : Nat) (c f : Str) : DE := fun ρ _ Q => ∃ z fs x, ρ[i]? = some (some (.own (slf z c fs))) ∧ fs.lookup f = some x ∧ Q x
/-- x.f = e, x such an object that has no such field yet -/
def dPutF (i : Nat) (c f : Str) (de : DE) : DS := fun De ρ => de ρ (De.ex ρ) fun y => ∃ z fs, ρ[i]? = some (some (.own (slf z c fs))) ∧ fs.lookup f = none ∧ fs.length < 100 ∧ De.nx (ρ.set i (some (.own (slf z c (fs ++ [(f, y)])))))
end
end HD
/-! HO2: methods, properties and constructors as things that do what their mirrors say. -/
namespace HD
open PySem PySem.Spec PyProof.Rows L2
section
variable {P : Program} {w : World} {K : PySem.W.Frag} {mg : Str → Option Value} {base : Heap} {Cl : Str → Addr}
/-- the class c has a method m that does what mir says of the object and the arguments -/
def HasM (P : Program) (w : World) (K : PySem.W.Frag) (mg : Str → Option Value) (base : Heap) (Cl : Str → Addr) (c m : Str) (k : Nat) (mir : DFn) : Prop :=
  ∃ (f : Addr) (fd : FuncData) (ps : List Str), Cls K (He.ga K c) ∧ Meth K (He.ga K c) m f ∧ Binds K fd ps [] ∧ FnOk P w K mg base (L2.CX P w) k f fd ps (spF w Cl K mir)
theorem HasM.mono {c m : Str} {k j : Nat} {mir : DFn} (h : HasM P w K mg base Cl c m k mir) (hl : k ≤ j) : HasM P w K mg base Cl c m j mir := by
  obtain ⟨f, fd, ps, h1, h2, h3, h5⟩ := h
  exact ⟨f, fd, ps, h1, h2, h3, h5.mono hl⟩
/-- .. a property -/
def HasP (P : Program) (w : World) (K : PySem.W.Frag) (mg : Str → Option Value) (base : Heap) (Cl : Str → Addr) (c m : Str) (k : Nat) (mir : DFn) : Prop :=
  ∃ (p g : Addr) (fd : FuncData) (ps : List Str), Cls K (He.ga K c) ∧ PropOf K (He.ga K c) m p g ∧ Binds K fd ps [] ∧ FnOk P w K mg base (L2.CX P w) k g fd ps (spF w Cl K mir)
theorem HasP.mono {c m : Str} {k j : Nat} {mir : DFn} (h : HasP P w K mg base Cl c m k mir) (hl : k ≤ j) : HasP P w K mg base Cl c m j mir := by
  obtain ⟨p, g, fd, ps, h1, h2, h3, h5⟩ := h
  exact ⟨p, g, fd, ps, h1, h2, h3, h5.mono hl⟩
/-! ### constructors -/
abbrev DIn := List D → (Err → Prop) → (List (Str × D) → Prop) → Prop
/-- __init__: n names, np parameters, self ahead of all -/
def dInit (c : Str) (n np : Nat) (db : DS) : DIn := fun ds Xd Qd => ds.length + 1 = np ∧ ∀ x : Addr, db { nx := fun ρ => ∃ fs, ρ[0]? = some (some (.own (slf x c fs))) ∧ Qd fs, rt := fun _ => False, bk := fun _ => False, ct := fun _ => False, ex := fun _ e => Xd e } (some (.own (slf x c [])) :: rho0 (n - 1) ds)
def spI (w : World) (Cl : Str → Addr) (K : PySem.W.Frag) (c : Str) (m : DIn) : Sp := fun vs H Q E => ∃ (B : Bg) (O : Addr → Prop) (ds : List D) (Xd : Err → Prop) (Qd : List (Str × D) → Prop) (H0 : Hp) (x dx : Addr) (us : List V), vs = .ref x :: us ∧ B.w = w ∧ O B.b ∧ O B.l ∧ (∀ a, O a → H0 a ≠ none) ∧
  H0 x = none ∧ H0 dx = none ∧ dx ≠ x ∧ H = upd (upd H0 dx (.own x)) x (.ins (He.ga K c) dx []) ∧ IsL B O K H0 us ds ∧ m ds Xd Qd ∧
  (∀ e, Xd e → ∀ dd v H', Ex B H0 H' → H' dd = some (.xd [(fldOf e.1, v)]) → Is B O K H' v e.2 → E (.ref (Cl e.1)) (some dd) H') ∧ ∀ fs, Qd fs → ∀ H', Ex B H0 H' → OwnN B O K H' x (.obj c fs) → Q .non H'
/-- the class c is made by what mir says -/
def HasI (P : Program) (w : World) (K : PySem.W.Frag) (mg : Str → Option Value) (base : Heap) (Cl : Str → Addr) (c : Str) (k : Nat) (mir : DIn) : Prop :=
  ∃ (f : Addr) (fd : FuncData) (ps : List Str), mg c = some (.ref (He.ga K c)) ∧ Mk K (He.ga K c) f ∧ Binds K fd ps [] ∧ FnOk P w K mg base (L2.CX P w) k f fd ps (spI w Cl K c mir)
theorem HasI.mono {c : Str} {k j : Nat} {mir : DIn} (h : HasI P w K mg base Cl c k mir) (hl : k ≤ j) : HasI P w K mg base Cl c j mir := by
  obtain ⟨f, fd, ps, h1, h2, h3, h5⟩ := h
  exact ⟨f, fd, ps, h1, h2, h3, h5.mono hl⟩
theorem envI {B : Bg} {O : Addr → Prop} {H0 : Hp} {us : List V} {ds : List D} {N : List Str} {x dx : Addr} {c : Str} (ob : O B.b) (ol : O B.l) (oa : ∀ a, O a → H0 a ≠ none) (hx : H0 x = none) (hd : H0 dx = none) (ne : dx ≠ x) (r : IsL B O K H0 us ds) :
    EnvOk ⟨B, O, K, H0, [], fun _ _ _ => True⟩ (upd (upd H0 dx (.own x)) x (.ins (He.ga K c) dx [])) (some (.ref x) :: L2.start N us) (some (.own (slf x c [])) :: rho0 N.length ds) := by
  have e0 := env0 (N := N) ob ol oa r
  have x1 : Ex B H0 (upd H0 dx (.own x)) := Ex.new hd
  have hx1 : (upd H0 dx (.own x)) x = none := by rw [upd_ne (Ne.symm ne)]; exact hx
  have x2 : Ex B H0 (upd (upd H0 dx (.own x)) x (.ins (He.ga K c) dx [])) := x1.trans (Ex.new hx1)
  have nO : ¬ O x := fun z => oa x z hx
  have no : ∀ (i : Nat) (d : D), (rho0 N.length ds)[i]? ≠ some (some (.own d)) := fun i d h => by
    unfold rho0 at h
    rw [List.getElem?_append] at h
    split at h
    · rw [List.getElem?_map] at h
      cases q : ds[i]? with
      | none => rw [q] at h; cases h
      | some e => rw [q] at h; cases h
    · rw [List.getElem?_replicate] at h
      split at h <;> cases h
  have at0 : ∀ (i : Nat) (d : D), (some (Sl.own (slf x c [])) :: rho0 N.length ds)[i]? = some (some (.own d)) → i = 0 ∧ d = slf x c [] := fun i d h => by
    rcases i with _ | i
    · cases h; exact ⟨rfl, rfl⟩
    · exact absurd h (no i d)
  have so : ∀ a, OS ⟨B, O, K, H0, [], fun _ _ _ => True⟩ (some (.ref x) :: L2.start N us) (some (.own (slf x c [])) :: rho0 N.length ds) a → OS ⟨B, O, K, H0, [], fun _ _ _ => True⟩ (L2.start N us) (rho0 N.length ds) a ∨ H0 a = none := fun a z => by
    rcases z with z | ⟨i, d, z1, z2⟩
    · exact .inl (.inl z)
    · obtain ⟨rfl, rfl⟩ := at0 i d z1
      cases z2
      exact .inr hx
  refine ⟨x2, by rw [List.length_cons, List.length_cons, e0.len], ob, ol, fun a z => ?_, fun i d h => ?_, fun i d h => ?_, fun i j d e a h1 h2 h3 h4 => ?_, fun p hp => nomatch hp⟩
  · have := oa a z
    cases q : H0 a with
    | none => exact absurd q this
    | some o =>
      obtain ⟨o', e'⟩ := x2.there a o q
      rw [e']; simp
  · rcases i with _ | i
    · cases h
    · obtain ⟨v, h1, h2⟩ := e0.val i d h
      exact ⟨v, h1, (h2.sub so (.inl ob)).ex x2 (.inl ob)⟩
  · obtain ⟨rfl, rfl⟩ := at0 i d h
    exact ⟨x, rfl, .tag (.obj (fs := []) (vs := []) (ds := []) upd_same rfl .nil), hx, nO⟩
  · obtain ⟨rfl, _⟩ := at0 i d h1
    obtain ⟨rfl, _⟩ := at0 j e h2
    rfl
end
end HD
/-! HO3: methods called, properties read, objects made, isinstance of own classes. -/
namespace HD
open PySem PySem.Spec PyProof.Rows L2
section
variable {X : Cx} {F : Fx} {Cl : Str → Addr} {W : WX} {B : Bg}
/-- o.m(..), o an object of class c -/
def dMeth (c m : Str) (mir : DFn) (de : DE) (da : DA) : DE := fun ρ Xd Q => de ρ Xd fun d => ∃ fs, d = .obj c fs ∧ fs.lookup m = none ∧ da ρ Xd fun ds => mir (d :: ds) Xd Q
/-- o.f, a property -/
def dProp (c : Str) (mir : DFn) (de : DE) : DE := fun ρ Xd Q => de ρ Xd fun d => ∃ fs, d = .obj c fs ∧ mir [d] (fun _ => False) Q
/-- C(..) -/
def dMake (c : Str) (mir : DIn) (da : DA) : DE := fun ρ Xd Q => da ρ Xd fun ds => mir ds Xd fun fs => Q (.obj c fs)
end
section
variable {ρ : Rho} {Xd : Err → Prop} {Q : D → Prop} {De : DEnds} {a : DE} {A : DA}
theorem e_fld {c f : Str} : dFld c f a ρ Xd Q = a ρ Xd fun d => ∃ fs x, d = .obj c fs ∧ fs.lookup f = some x ∧ Q x := propext Iff.rfl
theorem e_fldO {i : Nat} {c f : Str} : dFldO i c f ρ Xd Q = ∃ z fs x, ρ[i]? = some (some (.own (slf z c fs))) ∧ fs.lookup f = some x ∧ Q x := propext Iff.rfl
theorem e_putF {i : Nat} {c f : Str} : dPutF i c f a De ρ = a ρ (De.ex ρ) fun y => ∃ z fs, ρ[i]? = some (some (.own (slf z c fs))) ∧ fs.lookup f = none ∧ fs.length < 100 ∧ De.nx (ρ.set i (some (.own (slf z c (fs ++ [(f, y)]))))) := propext Iff.rfl
theorem e_meth {c m : Str} {mir : DFn} : dMeth c m mir a A ρ Xd Q = a ρ Xd fun d => ∃ fs, d = .obj c fs ∧ fs.lookup m = none ∧ A ρ Xd fun ds => mir (d :: ds) Xd Q := propext Iff.rfl
theorem e_prop {c : Str} {mir : DFn} : dProp c mir a ρ Xd Q = a ρ Xd fun d => ∃ fs, d = .obj c fs ∧ mir [d] (fun _ => False) Q := propext Iff.rfl
theorem e_make {c : Str} {mir : DIn} : dMake c mir A ρ Xd Q = A ρ Xd fun ds => mir ds Xd fun fs => Q (.obj c fs) := propext Iff.rfl
end
end HD
/-! GE1: == and != of equal data, dicts among them. -/
namespace GD
open PySem PySem.Spec PyProof.Rows PySem.SeqAt
section
variable {prog : Program} {w : World} {A : Around} {E : Value → Shared → Prop} {s : Shared} {a b : Addr} {oa ob : Obj} {es es' : Array DictEntry} {ep ep' : Nat} {ks : List PyData}
end
end GD
namespace HD
open PySem PySem.Spec PyProof.Rows L2 PySem.SeqAt
/-- data that can be compared with the like, nested at most n deep -/
def eqOk : Nat → D → Prop
  | 0, _ => False
  | _ + 1, .non => True
  | _ + 1, .bl _ => True
  | _ + 1, .int _ => True
  | _ + 1, .str _ => True
  | n + 1, .tup xs => ∀ x ∈ xs, eqOk n x
  | n + 1, .lst xs => ∀ x ∈ xs, eqOk n x
  | n + 1, .dct kvs => ∀ p ∈ kvs, eqOk n p.2
  | _ + 1, _ => False
section
variable {X : Cx} {B : Bg} {O : Addr → Prop} {K : PySem.W.Frag} {H : Hp}
/-- two dicts, the like of one another -/
def rLike (neg : Bool) : D2 := fun x y Q => x = y ∧ (∃ kvs, x = .dct kvs) ∧ eqOk 120 x ∧ Q (.bl (!neg))
/-- == and != of any data, of dicts only where they are the like of one another -/
def rEqX : D2 := fun x y Q => rEq x y Q ∨ rLike false x y Q
def rNeX : D2 := fun x y Q => rNe x y Q ∨ rLike true x y Q
theorem OpD.or {f : Value → Value → Sem Value} {r1 r2 : D2} (h1 : OpD X B f r1) (h2 : OpD X B f r2) : OpD X B f fun x y Q => r1 x y Q ∨ r2 x y Q := by
  obtain ⟨a, a1, a2⟩ := h1
  obtain ⟨b, b1, b2⟩ := h2
  exact ⟨_, OpR.or a1 b1, fun O H x y dx dy Qd Q ob oa ix iy h k => h.elim (fun z => .inl (a2 O H x y dx dy Qd Q ob oa ix iy z k)) fun z => .inr (b2 O H x y dx dy Qd Q ob oa ix iy z k)⟩
end
end HD
/-! GE2: dict(d) of a dict whose keys are texts. -/
namespace HD
open PySem PySem.Spec PyProof.Rows L2
section
variable {P : Program} {w : World}
end
section
variable {X : Cx} {F : Fx} {Cl : Str → Addr} {W : WX} {B : Bg}
/-- dict(d), the keys texts -/
def rDict : DR := fun ds Q => ∃ (zs : List Str) (vs : List D), zs.length = vs.length ∧ ds = [.dct ((zs.map D.str).zip vs)] ∧ Q (.dct ((zs.map D.str).zip vs))
/-- dict(x), x an own dict -/
def dDictO (i : Nat) : DE := fun ρ _ Q => ∃ (zs : List Str) (vs : List D), zs.length = vs.length ∧ ρ[i]? = some (some (.own (.dct ((zs.map D.str).zip vs)))) ∧ Q (.dct ((zs.map D.str).zip vs))
end
section
variable {ρ : Rho} {Xd : Err → Prop} {Q : D → Prop}
theorem e_dictO {i : Nat} : dDictO i ρ Xd Q = ∃ (zs : List Str) (vs : List D), zs.length = vs.length ∧ ρ[i]? = some (some (.own (.dct ((zs.map D.str).zip vs)))) ∧ Q (.dct ((zs.map D.str).zip vs)) := propext Iff.rfl
end
end HD
/-! GE3: own.pop(k), a statement, the keys texts. -/
namespace HD
open PySem PySem.Spec PyProof.Rows L2
section
variable {X : Cx} {F : Fx} {Cl : Str → Addr} {W : WX}
/-- own.pop(k) -/
def tPop (F : Fx) (Cl : Str → Addr) (W : WX) (i : Nat) (dk : DE) : TE := fun σ H Q => ∃ (ρ : Rho) (Xd : Err → Prop) (zs : List Str) (vs : List D) (R : Nat → Prop), EnvOk F H σ ρ ∧ zs.length = vs.length ∧ ρ[i]? = some (some (.own (.dct ((zs.map D.str).zip vs)))) ∧
  (dk ρ Xd fun k => ∃ (j : Nat) (z : Str), k = .str z ∧ zs[j]? = some z ∧ R j) ∧ XO F Cl W σ H ρ Xd ∧ ∀ j, R j → ∀ v H', EnvOk F H' σ (ρ.set i (some (.own (.dct (((zs.map D.str).zip vs).eraseIdx j))))) → Q v H'
def dPop (i : Nat) (dk : DE) : DS := fun De ρ => ∃ (zs : List Str) (vs : List D), zs.length = vs.length ∧ ρ[i]? = some (some (.own (.dct ((zs.map D.str).zip vs)))) ∧
  dk ρ (De.ex ρ) fun k => ∃ (j : Nat) (z : Str), k = .str z ∧ zs[j]? = some z ∧ De.nx (ρ.set i (some (.own (.dct (((zs.map D.str).zip vs).eraseIdx j)))))
end
section
variable {ρ : Rho} {De : DEnds} {a : DE}
theorem e_pop {i : Nat} : dPop i a De ρ = ∃ (zs : List Str) (vs : List D), zs.length = vs.length ∧ ρ[i]? = some (some (.own (.dct ((zs.map D.str).zip vs)))) ∧
  a ρ (De.ex ρ) fun k => ∃ (j : Nat) (z : Str), k = .str z ∧ zs[j]? = some z ∧ De.nx (ρ.set i (some (.own (.dct (((zs.map D.str).zip vs).eraseIdx j))))) := propext Iff.rfl
end
end HD
/-! HE20: all that is above HE19. -/
/-! HN1: more mirrors taken apart; terms as keys. -/
namespace HD
open PySem PyProof.Rows L2
section
variable {ρ : Rho} {Xd : Err → Prop} {Q : D → Prop} {De : DEnds} {a b c : DE} {s t : DS} {u v : DT} {da : DA}
theorem e_inD {neg : Bool} {x : D} {kvs : List (D × D)} : HD.rIn neg x (.dct kvs) Q = (keyOk x ∧ Q (.bl (neg ^^ (lookD kvs x).isSome))) := propext Iff.rfl
theorem e_lenD {kvs : List (D × D)} : rLen [.dct kvs] Q = Q (.int kvs.length) := propext Iff.rfl
theorem e_put {i : Nat} : dPut i a b De ρ = ∃ kvs, ρ[i]? = some (some (.own (.dct kvs))) ∧ b ρ (De.ex ρ) fun v => a ρ (De.ex ρ) fun k => keyOk k ∧ kvs.length < sizeLine ∧ De.nx (ρ.set i (some (.own (.dct (setD kvs k v))))) := propext Iff.rfl
theorem e_callD {L : List Nat} {m : DFn} : dCallD L m da ρ Xd Q = (L.all (fun i => isOwnD ρ[i]?) = true ∧ da ρ Xd fun ds => m ds (fun e => noD e.2 = true ∧ Xd e) fun d => noD d = true ∧ Q d) := propext Iff.rfl
theorem e_callL {L : List Nat} {m : DFn} : dCallL L m da ρ Xd Q = (L.all (fun i => isOwn ρ[i]?) = true ∧ da ρ Xd fun ds => m ds (fun e => imm e.2 = true ∧ Xd e) fun d => imm d = true ∧ Q d) := propext Iff.rfl
theorem e_lendD {i : Nat} : dLendD i ρ Xd Q = ∃ d, ρ[i]? = some (some (.own (.dct d))) ∧ Q (.dct d) := propext Iff.rfl
theorem e_lend {i : Nat} : dLend i ρ Xd Q = ∃ d, ρ[i]? = some (some (.own d)) ∧ Q d := propext Iff.rfl
theorem e_listO {i : Nat} : dListO i ρ Xd Q = ∃ kvs, ρ[i]? = some (some (.own (.dct kvs))) ∧ Q (.lst (kvs.map (·.1))) := propext Iff.rfl
theorem e_newD : dNewD ρ Xd Q = Q (.dct []) := propext Iff.rfl
theorem e_frz {i : Nat} : dFrz i s De ρ = ∃ d, ρ[i]? = some (some (.own d)) ∧ s De (ρ.set i (some (.val d))) := propext Iff.rfl
theorem e_append {i : Nat} : dAppend i a De ρ = ∃ ds, ρ[i]? = some (some (.own (.lst ds))) ∧ a ρ (De.ex ρ) fun d => ds.length < sizeLine ∧ De.nx (ρ.set i (some (.own (.lst (ds ++ [d]))))) := propext Iff.rfl
theorem e_opOwn {r : D2} {i : Nat} : dOpOwn r a i ρ Xd Q = ∃ d, ρ[i]? = some (some (.own d)) ∧ a ρ Xd fun x => r x d fun z => flatD z = true ∧ Q z := propext Iff.rfl
theorem e_cbOwn {r : DR} {i : Nat} : dCBOwn r i ρ Xd Q = ∃ d, ρ[i]? = some (some (.own d)) ∧ r [d] fun z => flatD z = true ∧ Q z := propext Iff.rfl
theorem e_dc {di : DI} {tg : DG} {vs : List Nat} : dDc di tg u a b vs ρ Xd Q = (noOwn ρ vs = true ∧ di ρ Xd fun ds => dcD tg u a b ds [] (wipeR ρ vs) fun acc => Q (.dct acc)) := propext Iff.rfl
theorem e_dcN {tg : DG} {acc : List (D × D)} {R : List (D × D) → Prop} : dcD tg u a b [] acc ρ R = R acc := propext Iff.rfl
theorem e_dcC {tg : DG} {d : D} {r : List D} {acc : List (D × D)} {R : List (D × D) → Prop} : dcD tg u a b (d :: r) acc ρ R = tg d ρ fun ρ1 => u ρ1 (fun _ => False) fun c => if c = true then a ρ1 (fun _ => False) (fun k => b ρ1 (fun _ => False) fun v => keyOk k ∧ acc.length < sizeLine ∧ dcD tg u a b r (setD acc k v) ρ R) else dcD tg u a b r acc ρ R := propext Iff.rfl
theorem e_enum {R : List D → Prop} : dEnum a ρ Xd R = a ρ Xd fun d => ∃ ds, rowOf d = some ds ∧ R (enumD ds) := propext Iff.rfl
theorem e_row1 {l : List D} : rowOf (.tup l) = some l := rfl
theorem e_row2 {l : List D} : rowOf (.lst l) = some l := rfl
theorem e_itD {kvs : List (D × D)} : itemsOf (.dct kvs) = some (kvs.map (·.1)) := rfl
theorem e_raise {x : Str} : dRaise x a De ρ = a ρ (De.ex ρ) fun d => De.ex ρ (x, d) := propext Iff.rfl
theorem e_own1 {d : D} : isOwn (some (some (.own d))) = true := rfl
theorem e_own2 {d : List (D × D)} : isOwnD (some (some (.own (.dct d)))) = true := rfl
theorem e_orR {p : Prop} : (p ∨ True) = True := or_true p
theorem e_pl5 {l : List (D × D)} : isPl (.dct l) = true := rfl
theorem e_ixO {i : Nat} : dIxO i b ρ Xd Q = ∃ d, ρ[i]? = some (some (.own d)) ∧ b ρ Xd fun y => rIx d y Q := propext Iff.rfl
theorem e_neg {i : Int} : (∃ j, D.int i = .int j ∧ Q (.int (-j))) = Q (.int (-i)) := by simp
theorem e_ng : dNeg a ρ Xd Q = a ρ Xd fun x => ∃ i, x = .int i ∧ Q (.int (-i)) := propext Iff.rfl
theorem e_lc2 {di di1 : DI} {tg tg1 : DG} {vs vs1 : List Nat} : dLc2 di tg u di1 tg1 v a vs vs1 ρ Xd Q = (noOwn ρ vs = true ∧ di ρ Xd fun ds => lc2D tg u di1 tg1 v a vs1 ds [] (wipeR ρ vs) fun acc => Q (.lst acc)) := propext Iff.rfl
theorem e_lc2N {di1 : DI} {tg tg1 : DG} {vs1 : List Nat} {acc : List D} {R : List D → Prop} : lc2D tg u di1 tg1 v a vs1 [] acc ρ R = R acc := propext Iff.rfl
theorem e_lc2C {di1 : DI} {tg tg1 : DG} {vs1 : List Nat} {d : D} {r acc : List D} {R : List D → Prop} : lc2D tg u di1 tg1 v a vs1 (d :: r) acc ρ R = tg d ρ fun ρ1 => u ρ1 (fun _ => False) fun c => if c = true then di1 ρ1 (fun _ => False) (fun es => lcD tg1 v a es acc (wipeR ρ1 vs1) fun acc1 => lc2D tg u di1 tg1 v a vs1 r acc1 ρ R) else lc2D tg u di1 tg1 v a vs1 r acc ρ R := propext Iff.rfl
theorem e_get2 {d k x : DE} : dGet2 d k x ρ Xd Q = d ρ Xd fun d => (∃ kvs, d = .dct kvs) ∧ k ρ Xd fun k => x ρ Xd fun x => rGet d k x Q := propext Iff.rfl
theorem e_ixD {kvs : List (D × D)} {y : D} : rIx (.dct kvs) y Q = (keyOk y ∧ ∃ d, lookD kvs y = some d ∧ Q d) := propext Iff.rfl
theorem e_pair {i j : Nat} {x y : D} {R : Rho → Prop} : tPair i j (.tup [x, y]) ρ R = R ((ρ.set i (some (.val x))).set j (some (.val y))) := propext ⟨fun ⟨_, _, e, h⟩ => by cases e; exact h, fun h => ⟨x, y, rfl, h⟩⟩
theorem e_l0 : (0 ≤ sizeLine) = True := eq_true (by decide)
theorem e_l4 : (4 ≤ sizeLine) = True := eq_true (by decide)
theorem e_l5 : (5 ≤ sizeLine) = True := eq_true (by decide)
theorem e_l6 : (6 ≤ sizeLine) = True := eq_true (by decide)
theorem e_l7 : (7 ≤ sizeLine) = True := eq_true (by decide)
theorem e_l8 : (8 ≤ sizeLine) = True := eq_true (by decide)
theorem e_l9 : (9 ≤ sizeLine) = True := eq_true (by decide)
theorem e_l10 : (10 ≤ sizeLine) = True := eq_true (by decide)
def nown : Option (Option Sl) → Bool
  | some (some (.own _)) => false
  | _ => true
theorem e_noOwn {vs : List Nat} : noOwn ρ vs = vs.all (fun i => nown ρ[i]?) := id rfl
theorem e_nw0 : nown none = true := rfl
theorem e_nw1 : nown (some none) = true := rfl
theorem e_nw2 {d : D} : nown (some (some (.val d))) = true := rfl
theorem e_insert {i : Nat} : dInsert i a b De ρ = ∃ ds, ρ[i]? = some (some (.own (.lst ds))) ∧ a ρ (De.ex ρ) fun x => b ρ (De.ex ρ) fun d => ∃ n : Int, x = .int n ∧ 0 ≤ n ∧ n < 2 ^ 63 ∧ ds.length < sizeLine ∧ De.nx (ρ.set i (some (.own (.lst (insD ds n.toNat d))))) := propext Iff.rfl
theorem e_asgT {is : List Nat} : dAsgT is a De ρ = a ρ (De.ex ρ) fun d => ∃ ds, rowOf d = some ds ∧ ds.length = is.length ∧ De.nx (setMany ρ is ds) := propext Iff.rfl
theorem e_revT : dRevT a ρ Xd Q = a ρ Xd fun d => ∃ ds, d = .tup ds ∧ Q (.tup ds.reverse) := propext Iff.rfl
theorem e_rev : dRev a ρ Xd Q = a ρ Xd fun d => ∃ ds, d = .lst ds ∧ Q (.lst ds.reverse) := propext Iff.rfl
theorem e_sm2 {i j : Nat} {x y : D} : setMany ρ [i, j] [x, y] = (ρ.set i (some (.val x))).set j (some (.val y)) := id rfl
theorem e_asgM {i : Nat} : dAsgM i a De ρ = a ρ (De.ex ρ) fun d => De.nx (ρ.set i (some (slM d))) := propext Iff.rfl
theorem e_isB {x y : Bool} : rIsB (.bl x) (.bl y) Q = Q (.bl (decide (x = y))) := propext ⟨fun ⟨_, _, e1, e2, q⟩ => by cases e1; cases e2; exact q, fun q => ⟨_, _, rfl, rfl, q⟩⟩
theorem e_isNotB {x y : Bool} : rIsNotB (.bl x) (.bl y) Q = Q (.bl (!decide (x = y))) := propext ⟨fun ⟨_, _, e1, e2, q⟩ => by cases e1; cases e2; exact q, fun q => ⟨_, _, rfl, rfl, q⟩⟩
theorem e_dct {da : DA} : dDct da ρ Xd Q = da ρ Xd fun ds => keysL ds ∧ Q (.dct (foldP ds [])) := propext Iff.rfl
theorem e_getO {i : Nat} : dGetO i a b ρ Xd Q = ∃ kvs, ρ[i]? = some (some (.own (.dct kvs))) ∧ a ρ Xd fun k => b ρ Xd fun x => rGet (.dct kvs) k x Q := propext Iff.rfl
theorem e_getO1 {i : Nat} : dGetO1 i a ρ Xd Q = ∃ kvs, ρ[i]? = some (some (.own (.dct kvs))) ∧ a ρ Xd fun k => rGet (.dct kvs) k .non Q := propext Iff.rfl
theorem e_get1 : dGet1 a b ρ Xd Q = a ρ Xd fun d => (∃ kvs, d = .dct kvs) ∧ b ρ Xd fun k => rGet d k .non Q := propext Iff.rfl
theorem e_rget {kvs : List (D × D)} {k x : D} : rGet (.dct kvs) k x Q = (keyOk k ∧ Q ((lookD kvs k).getD x)) := propext Iff.rfl
theorem e_putL {i : Nat} : dPutL i a b De ρ = ∃ ds, ρ[i]? = some (some (.own (.lst ds))) ∧ b ρ (De.ex ρ) fun v => a ρ (De.ex ρ) fun k => ∃ n j, k = .int n ∧ ixN ds.length n = some j ∧ De.nx (ρ.set i (some (.own (.lst (ds.set j v))))) := propext Iff.rfl
theorem e_minI {x y : Int} : rMin [.int x, .int y] Q = Q (.int (if y < x then y else x)) := propext ⟨fun ⟨_, _, e, q⟩ => by cases e; exact q, fun q => ⟨_, _, rfl, q⟩⟩
theorem e_tupO {i : Nat} : dTupO i ρ Xd Q = ∃ ds, ρ[i]? = some (some (.own (.lst ds))) ∧ Q (.tup ds) := propext Iff.rfl
theorem e_slmL {x : List D} : slM (.lst x) = .own (.lst x) := id rfl
theorem e_slmD {x : List (D × D)} : slM (.dct x) = .own (.dct x) := id rfl
theorem e_slmN : slM .non = .val .non := id rfl
theorem e_opAny {r : D2} {i : Nat} {b : DE} : dOpAny r i b ρ Xd Q = ∃ s, ρ[i]? = some (some s) ∧ b ρ Xd fun y => r (slD s) y fun z => flatD z = true ∧ Q z := propext Iff.rfl
theorem e_sldV {x : D} : slD (.val x) = x := id rfl
theorem e_sldO {x : D} : slD (.own x) = x := id rfl
theorem i_str_D {x : List (D × D)} : isiN "str" (.dct x) = false := rfl
theorem i_tuple_D {x : List (D × D)} : isiN "tuple" (.dct x) = false := rfl
theorem i_list_D {x : List (D × D)} : isiN "list" (.dct x) = false := rfl
theorem i_dict_D {x : List (D × D)} : isiN "dict" (.dct x) = true := rfl
end
end HD
namespace HD
open PySem PyProof.Rows L2
def m_is_name : DFn := dFn 2 1
    (dSeq (dIfS (dOr (dNot (dTest (dCB rIsi (dCons (dVar 0) (dCons (dC (.ty "str")) dNil))))) (dNot (dTest (dChain rLe rLe (dC (.int 1)) (dCB rLen (dCons (dVar 0) dNil)) (dC (.int 8)))))) (dRet (dC (.bl false))) dNext)
    (dRet (dCB rAll (dCons (dLc (dItems (dVar 0)) (tName 1) dYes (dOp (rIn false) (dVar 1) (dC (.str "abcdefghijklmnopqrstuvwxyz"))) [1]) dNil))))
end HD
namespace HD
open PySem PyProof.Rows L2
def m_is_leaf : DFn := dFn 2 2
    (dSeq (dIfS (dTest (dCall m_is_name (dCons (dVar 0) dNil))) (dRet (dC (.bl true))) dNext)
    (dRet (dAndV (dVar 1) (dAndV (dCB rIsi (dCons (dVar 0) (dCons (dC (.ty "tuple")) dNil))) (dAndV (dOp rEq (dCB rLen (dCons (dVar 0) dNil)) (dC (.int 2))) (dAndV (dOp rEq (dOp rIx (dVar 0) (dC (.int 0))) (dC (.str "var"))) (dCall m_is_name (dCons (dOp rIx (dVar 0) (dC (.int 1))) dNil))))))))
end HD
namespace HD
open PySem PyProof.Rows L2
def tab_LENGTHS : List (Str × D) := [("pair", .int 3), ("box", .int 3), ("half", .int 2), ("shut", .int 3), ("mark", .int 3), ("mix", .int 2)]
end HD
namespace HD
open PySem PyProof.Rows L2
def m_measure : Nat → DFn
  | 0 => fun _ _ _ => False
  | n + 1 => dFn 6 3
    (dSeq (dIfS (dTest (dCall m_is_leaf (dCons (dVar 0) (dCons (dVar 1) dNil)))) (dRet (dTup (dCons (dC (.int 1)) (dCons (dC (.int 1)) dNil)))) dNext)
    (dSeq (dIfS (dOr (dTest (dOp rEq (dVar 2) (dC (.int 1)))) (dOr (dNot (dTest (dCB rIsi (dCons (dVar 0) (dCons (dC (.ty "tuple")) dNil))))) (dOr (dTest (dOp rEq (dCB rLen (dCons (dVar 0) dNil)) (dC (.int 0)))) (dNot (dTest (dCB rIsi (dCons (dOp rIx (dVar 0) (dC (.int 0))) (dCons (dC (.ty "str")) dNil)))))))) (dRet (dC .non)) dNext)
    (dSeq (dIfS (dOr (dTest (dInTab true tab_LENGTHS (dOp rIx (dVar 0) (dC (.int 0))))) (dTest (dOp rNe (dCB rLen (dCons (dVar 0) dNil)) (dIxTab tab_LENGTHS (dOp rIx (dVar 0) (dC (.int 0))))))) (dRet (dC .non)) dNext)
    (dSeq (dIfS (dAnd (dTest (dOp (rIn false) (dOp rIx (dVar 0) (dC (.int 0))) (dC (.tup ((["half", "shut", "mark"] : List Str).map D.str))))) (dNot (dTest (dCall m_is_leaf (dCons (dOp rIx (dVar 0) (dC (.int 1))) (dCons (dVar 1) dNil)))))) (dRet (dC .non)) dNext)
    (dSeq (dAsg 3 (dLc (dItems (dSl (dVar 0) (dPart (dC (.int 1))) dNoPart)) (tName 4) dYes (dCall (m_measure n) (dCons (dVar 4) (dCons (dVar 1) (dCons (dOp rSub (dVar 2) (dC (.int 1))) dNil)))) [4]))
    (dSeq (dIfS (dTest (dOp (rIn false) (dC .non) (dVar 3))) (dRet (dC .non)) dNext)
    (dRet (dTup (dCons (dCB rSum (dCons (dLc (dItems (dVar 3)) (tName 5) dYes (dOp rIx (dVar 5) (dC (.int 0))) [5]) dNil)) (dCons (dOp rAdd (dC (.int 1)) (dCB rMax (dCons (dLc (dItems (dVar 3)) (tName 5) dYes (dOp rIx (dVar 5) (dC (.int 1))) [5]) dNil))) dNil))))))))))
end HD
namespace HD
open PySem PyProof.Rows L2
def m_has_form : DFn := dFn 3 2
    (dSeq (dAsg 2 (dCall (m_measure 13) (dCons (dVar 0) (dCons (dVar 1) (dCons (dC (.int 12)) dNil)))))
    (dRet (dAndV (dOp rIsNot (dVar 2) (dC .non)) (dOp rLe (dOp rIx (dVar 2) (dC (.int 0))) (dC (.int 40))))))
end HD
namespace HD
open PySem PyProof.Rows L2
def m_is_term : DFn := dFn 1 1
    (dRet (dCall m_has_form (dCons (dVar 0) (dCons (dC (.bl false)) dNil))))
end HD
namespace HD
open PySem PyProof.Rows L2
def m_check_term : DFn := dFn 1 1
    (dIfS (dNot (dTest (dCall m_is_term (dCons (dVar 0) dNil)))) (dRaise "BadTerm" (dVar 0)) dNext)
end HD
namespace HD
open PySem PyProof.Rows L2
def m_is_pattern : DFn := dFn 1 1
    (dRet (dCall m_has_form (dCons (dVar 0) (dCons (dC (.bl true)) dNil))))
end HD
namespace HD
open PySem PyProof.Rows L2
def m_spelled : Nat → DFn
  | 0 => fun _ _ _ => False
  | n + 1 => dFn 4 1
    (dSeq (dIfS (dTest (dCB rIsi (dCons (dVar 0) (dCons (dC (.ty "str")) dNil)))) (dRet (dVar 0)) dNext)
    (dSeq (dIfS (dTest (dOp rEq (dOp rIx (dVar 0) (dC (.int 0))) (dC (.str "var")))) (dRet (dOp rAdd (dC (.str "?")) (dOp rIx (dVar 0) (dC (.int 1))))) dNext)
    (dSeq (dAsg 1 (dLc (dItems (dSl (dVar 0) (dPart (dC (.int 1))) dNoPart)) (tName 3) dYes (dCall (m_spelled n) (dCons (dVar 3) dNil)) [3]))
    (dSeq (dIfS (dTest (dOp rEq (dOp rIx (dVar 0) (dC (.int 0))) (dC (.str "pair")))) (dRet (dOp rAdd (dOp rAdd (dOp rAdd (dOp rAdd (dC (.str "(")) (dOp rIx (dVar 1) (dC (.int 0)))) (dC (.str " & "))) (dOp rIx (dVar 1) (dC (.int 1)))) (dC (.str ")")))) dNext)
    (dSeq (dIfS (dTest (dOp rEq (dOp rIx (dVar 0) (dC (.int 0))) (dC (.str "box")))) (dSeq (dAsg 2 (dOrV (dCB rIsi (dCons (dOp rIx (dVar 0) (dC (.int 1))) (dCons (dC (.ty "str")) dNil))) (dOp rEq (dOp rIx (dOp rIx (dVar 0) (dC (.int 1))) (dC (.int 0))) (dC (.str "var")))))
    (dRet (dOp rAdd (dOp rAdd (dOp rAdd (dC (.str "[")) (dOp rIx (dVar 1) (dC (.int 1)))) (dC (.str "]"))) (dIf (dTest (dVar 2)) (dOp rIx (dVar 1) (dC (.int 0))) (dOp rAdd (dOp rAdd (dC (.str "<")) (dOp rIx (dVar 1) (dC (.int 0)))) (dC (.str ">"))))))) dNext)
    (dSeq (dIfS (dTest (dOp rEq (dOp rIx (dVar 0) (dC (.int 0))) (dC (.str "half")))) (dRet (dOp rAdd (dC (.str "half ")) (dOp rIx (dVar 1) (dC (.int 0))))) dNext)
    (dSeq (dIfS (dTest (dOp rEq (dOp rIx (dVar 0) (dC (.int 0))) (dC (.str "shut")))) (dRet (dOp rAdd (dOp rAdd (dOp rAdd (dC (.str "{")) (dOp rIx (dVar 1) (dC (.int 1)))) (dC (.str "}"))) (dOp rIx (dVar 1) (dC (.int 0))))) dNext)
    (dSeq (dIfS (dTest (dOp rEq (dOp rIx (dVar 0) (dC (.int 0))) (dC (.str "mark")))) (dRet (dOp rAdd (dOp rAdd (dOp rAdd (dOp rAdd (dC (.str "(")) (dOp rIx (dVar 1) (dC (.int 1)))) (dC (.str "!"))) (dOp rIx (dVar 1) (dC (.int 0)))) (dC (.str ")")))) dNext)
    (dRet (dOp rAdd (dOp rAdd (dC (.str "mix(")) (dOp rIx (dVar 1) (dC (.int 0)))) (dC (.str ")"))))))))))))
end HD
namespace HD
open PySem PyProof.Rows L2
def m_law_worded : Nat → DFn
  | 0 => fun _ _ _ => False
  | n + 1 => dFn 3 1
    (dSeq (dIfS (dTest (dCB rIsi (dCons (dVar 0) (dCons (dC (.ty "str")) dNil)))) (dRet (dVar 0)) dNext)
    (dSeq (dIfS (dTest (dOp rEq (dOp rIx (dVar 0) (dC (.int 0))) (dC (.str "var")))) (dRet (dOp rAdd (dC (.str "?")) (dOp rIx (dVar 0) (dC (.int 1))))) dNext)
    (dSeq (dAsg 1 (dLc (dItems (dSl (dVar 0) (dPart (dC (.int 1))) dNoPart)) (tName 2) dYes (dCall (m_law_worded n) (dCons (dVar 2) dNil)) [2]))
    (dSeq (dIfS (dTest (dOp rEq (dOp rIx (dVar 0) (dC (.int 0))) (dC (.str "pair")))) (dRet (dOp rAdd (dOp rAdd (dOp rAdd (dOp rAdd (dC (.str "(")) (dOp rIx (dVar 1) (dC (.int 0)))) (dC (.str " & "))) (dOp rIx (dVar 1) (dC (.int 1)))) (dC (.str ")")))) dNext)
    (dSeq (dIfS (dTest (dOp rEq (dOp rIx (dVar 0) (dC (.int 0))) (dC (.str "box")))) (dSeq (dIfS (dOr (dTest (dCB rIsi (dCons (dOp rIx (dVar 0) (dC (.int 1))) (dCons (dC (.ty "str")) dNil)))) (dTest (dOp rEq (dOp rIx (dOp rIx (dVar 0) (dC (.int 1))) (dC (.int 0))) (dC (.str "var"))))) (dRet (dOp rAdd (dOp rAdd (dOp rAdd (dC (.str "[")) (dOp rIx (dVar 1) (dC (.int 1)))) (dC (.str "]"))) (dOp rIx (dVar 1) (dC (.int 0))))) dNext)
    (dRet (dOp rAdd (dOp rAdd (dOp rAdd (dOp rAdd (dC (.str "[")) (dOp rIx (dVar 1) (dC (.int 1)))) (dC (.str "]<"))) (dOp rIx (dVar 1) (dC (.int 0)))) (dC (.str ">"))))) dNext)
    (dSeq (dIfS (dTest (dOp rEq (dOp rIx (dVar 0) (dC (.int 0))) (dC (.str "half")))) (dRet (dOp rAdd (dC (.str "half ")) (dOp rIx (dVar 1) (dC (.int 0))))) dNext)
    (dSeq (dIfS (dTest (dOp rEq (dOp rIx (dVar 0) (dC (.int 0))) (dC (.str "shut")))) (dRet (dOp rAdd (dOp rAdd (dOp rAdd (dC (.str "{")) (dOp rIx (dVar 1) (dC (.int 1)))) (dC (.str "}"))) (dOp rIx (dVar 1) (dC (.int 0))))) dNext)
    (dSeq (dIfS (dTest (dOp rEq (dOp rIx (dVar 0) (dC (.int 0))) (dC (.str "mark")))) (dRet (dOp rAdd (dOp rAdd (dOp rAdd (dOp rAdd (dC (.str "(")) (dOp rIx (dVar 1) (dC (.int 1)))) (dC (.str "!"))) (dOp rIx (dVar 1) (dC (.int 0)))) (dC (.str ")")))) dNext)
    (dRet (dOp rAdd (dOp rAdd (dC (.str "mix(")) (dOp rIx (dVar 1) (dC (.int 0)))) (dC (.str ")"))))))))))))
end HD
namespace HD
open PySem PyProof.Rows L2
def m_word_end : DFn := dFn 2 2
    (dSeq (dWhile (dAnd (dTest (dOp rLt (dVar 1) (dCB rLen (dCons (dVar 0) dNil)))) (dTest (dOp (rIn false) (dOp rIx (dVar 0) (dVar 1)) (dC (.str "abcdefghijklmnopqrstuvwxyz"))))) (dAug 1 (dC (.int 1))))
    (dRet (dVar 1)))
end HD
namespace HD
open PySem PyProof.Rows L2
def m_behind : DFn := dFn 3 3
    (dSeq (dIfS (dOr (dTest (dOp rIs (dVar 1) (dC .non))) (dNot (dTest (dStarts (dVar 0) (dCons (dVar 2) (dCons (dOp rIx (dVar 1) (dC (.int 1))) dNil)))))) (dRet (dC .non)) dNext)
    (dRet (dTup (dCons (dOp rIx (dVar 1) (dC (.int 0))) (dCons (dOp rAdd (dOp rIx (dVar 1) (dC (.int 1))) (dCB rLen (dCons (dVar 2) dNil))) dNil)))))
end HD
namespace HD
open PySem PyProof.Rows L2
def m_leaf_at : DFn := dFn 4 2
    (dSeq (dAsg 2 (dOp rAdd (dVar 1) (dCB rInt (dCons (dOp rEq (dSl (dVar 0) (dPart (dVar 1)) (dPart (dOp rAdd (dVar 1) (dC (.int 1))))) (dC (.str "?"))) dNil))))
    (dSeq (dAsg 3 (dCall m_word_end (dCons (dVar 0) (dCons (dVar 2) dNil))))
    (dSeq (dIfS (dNot (dTest (dCall m_is_name (dCons (dSl (dVar 0) (dPart (dVar 2)) (dPart (dVar 3))) dNil)))) (dRet (dC .non)) dNext)
    (dRet (dTup (dCons (dIf (dTest (dOp rEq (dVar 2) (dVar 1))) (dSl (dVar 0) (dPart (dVar 1)) (dPart (dVar 3))) (dTup (dCons (dC (.str "var")) (dCons (dSl (dVar 0) (dPart (dVar 2)) (dPart (dVar 3))) dNil)))) (dCons (dVar 3) dNil)))))))
end HD
namespace HD
open PySem PyProof.Rows L2
def m_round_at (tm : DFn) : DFn := dFn 5 3
    (dSeq (dAsg 3 (dCall tm (dCons (dVar 0) (dCons (dOp rAdd (dVar 1) (dC (.int 1))) (dCons (dVar 2) dNil)))))
    (dSeq (dIfS (dTest (dOp rIs (dVar 3) (dC .non))) (dRet (dC .non)) dNext)
    (dSeq (dIfS (dTest (dStarts (dVar 0) (dCons (dC (.str " & ")) (dCons (dOp rIx (dVar 3) (dC (.int 1))) dNil)))) (dSeq (dAsg 4 (dCall m_behind (dCons (dVar 0) (dCons (dCall tm (dCons (dVar 0) (dCons (dOp rAdd (dOp rIx (dVar 3) (dC (.int 1))) (dCB rLen (dCons (dC (.str " & ")) dNil))) (dCons (dVar 2) dNil)))) (dCons (dC (.str ")")) dNil)))))
    (dRet (dIf (dTest (dOp rIs (dVar 4) (dC .non))) (dC .non) (dTup (dCons (dTup (dCons (dC (.str "pair")) (dCons (dOp rIx (dVar 3) (dC (.int 0))) (dCons (dOp rIx (dVar 4) (dC (.int 0))) dNil)))) (dCons (dOp rIx (dVar 4) (dC (.int 1))) dNil)))))) dNext)
    (dSeq (dIfS (dNot (dTest (dStarts (dVar 0) (dCons (dC (.str "!")) (dCons (dOp rIx (dVar 3) (dC (.int 1))) dNil))))) (dRet (dC .non)) dNext)
    (dSeq (dAsg 4 (dCall m_behind (dCons (dVar 0) (dCons (dCall m_leaf_at (dCons (dVar 0) (dCons (dOp rAdd (dOp rIx (dVar 3) (dC (.int 1))) (dC (.int 1))) dNil))) (dCons (dC (.str ")")) dNil)))))
    (dRet (dIf (dTest (dOp rIs (dVar 4) (dC .non))) (dC .non) (dTup (dCons (dTup (dCons (dC (.str "mark")) (dCons (dOp rIx (dVar 4) (dC (.int 0))) (dCons (dOp rIx (dVar 3) (dC (.int 0))) dNil)))) (dCons (dOp rIx (dVar 4) (dC (.int 1))) dNil))))))))))
end HD
namespace HD
open PySem PyProof.Rows L2
def m_box_at (tm : DFn) : DFn := dFn 5 3
    (dSeq (dAsg 3 (dCall m_behind (dCons (dVar 0) (dCons (dCall tm (dCons (dVar 0) (dCons (dOp rAdd (dVar 1) (dC (.int 1))) (dCons (dVar 2) dNil)))) (dCons (dC (.str "]")) dNil)))))
    (dSeq (dIfS (dTest (dOp rIs (dVar 3) (dC .non))) (dRet (dC .non)) dNext)
    (dSeq (dIfS (dTest (dStarts (dVar 0) (dCons (dC (.str "<")) (dCons (dOp rIx (dVar 3) (dC (.int 1))) dNil)))) (dAsg 4 (dCall m_behind (dCons (dVar 0) (dCons (dCall tm (dCons (dVar 0) (dCons (dOp rAdd (dOp rIx (dVar 3) (dC (.int 1))) (dC (.int 1))) (dCons (dVar 2) dNil)))) (dCons (dC (.str ">")) dNil))))) (dAsg 4 (dCall m_leaf_at (dCons (dVar 0) (dCons (dOp rIx (dVar 3) (dC (.int 1))) dNil)))))
    (dRet (dIf (dTest (dOp rIs (dVar 4) (dC .non))) (dC .non) (dTup (dCons (dTup (dCons (dC (.str "box")) (dCons (dOp rIx (dVar 4) (dC (.int 0))) (dCons (dOp rIx (dVar 3) (dC (.int 0))) dNil)))) (dCons (dOp rIx (dVar 4) (dC (.int 1))) dNil))))))))
end HD
namespace HD
open PySem PyProof.Rows L2
def m_shut_at (tm : DFn) : DFn := dFn 5 3
    (dSeq (dAsg 3 (dCall m_behind (dCons (dVar 0) (dCons (dCall tm (dCons (dVar 0) (dCons (dOp rAdd (dVar 1) (dC (.int 1))) (dCons (dVar 2) dNil)))) (dCons (dC (.str "}")) dNil)))))
    (dSeq (dIfS (dTest (dOp rIs (dVar 3) (dC .non))) (dRet (dC .non)) dNext)
    (dSeq (dAsg 4 (dCall m_leaf_at (dCons (dVar 0) (dCons (dOp rIx (dVar 3) (dC (.int 1))) dNil))))
    (dRet (dIf (dTest (dOp rIs (dVar 4) (dC .non))) (dC .non) (dTup (dCons (dTup (dCons (dC (.str "shut")) (dCons (dOp rIx (dVar 4) (dC (.int 0))) (dCons (dOp rIx (dVar 3) (dC (.int 0))) dNil)))) (dCons (dOp rIx (dVar 4) (dC (.int 1))) dNil))))))))
end HD
namespace HD
open PySem PyProof.Rows L2
def m_word_at (tm : DFn) : DFn := dFn 5 3
    (dSeq (dAsg 3 (dCall m_word_end (dCons (dVar 0) (dCons (dVar 1) dNil))))
    (dSeq (dIfS (dAnd (dTest (dOp rEq (dSl (dVar 0) (dPart (dVar 1)) (dPart (dVar 3))) (dC (.str "mix")))) (dTest (dStarts (dVar 0) (dCons (dC (.str "(")) (dCons (dVar 3) dNil))))) (dSeq (dAsg 4 (dCall m_behind (dCons (dVar 0) (dCons (dCall tm (dCons (dVar 0) (dCons (dOp rAdd (dVar 3) (dC (.int 1))) (dCons (dVar 2) dNil)))) (dCons (dC (.str ")")) dNil)))))
    (dRet (dIf (dTest (dOp rIs (dVar 4) (dC .non))) (dC .non) (dTup (dCons (dTup (dCons (dC (.str "mix")) (dCons (dOp rIx (dVar 4) (dC (.int 0))) dNil))) (dCons (dOp rIx (dVar 4) (dC (.int 1))) dNil)))))) dNext)
    (dSeq (dIfS (dAnd (dTest (dOp rEq (dSl (dVar 0) (dPart (dVar 1)) (dPart (dVar 3))) (dC (.str "half")))) (dAnd (dTest (dStarts (dVar 0) (dCons (dC (.str " ")) (dCons (dVar 3) dNil)))) (dNot (dTest (dStarts (dVar 0) (dCons (dC (.str " & ")) (dCons (dVar 3) dNil))))))) (dSeq (dAsg 4 (dCall m_leaf_at (dCons (dVar 0) (dCons (dOp rAdd (dVar 3) (dC (.int 1))) dNil))))
    (dRet (dIf (dTest (dOp rIs (dVar 4) (dC .non))) (dC .non) (dTup (dCons (dTup (dCons (dC (.str "half")) (dCons (dOp rIx (dVar 4) (dC (.int 0))) dNil))) (dCons (dOp rIx (dVar 4) (dC (.int 1))) dNil)))))) dNext)
    (dRet (dCall m_leaf_at (dCons (dVar 0) (dCons (dVar 1) dNil)))))))
end HD
namespace HD
open PySem PyProof.Rows L2
def m_term_at : Nat → DFn
  | 0 => fun _ _ _ => False
  | n + 1 => dFn 3 3
    (dSeq (dIfS (dTest (dOp rEq (dVar 2) (dC (.int 0)))) (dRet (dC .non)) dNext)
    (dSeq (dIfS (dTest (dStarts (dVar 0) (dCons (dC (.str "(")) (dCons (dVar 1) dNil)))) (dRet (dCall (m_round_at (m_term_at n)) (dCons (dVar 0) (dCons (dVar 1) (dCons (dOp rSub (dVar 2) (dC (.int 1))) dNil))))) dNext)
    (dSeq (dIfS (dTest (dStarts (dVar 0) (dCons (dC (.str "[")) (dCons (dVar 1) dNil)))) (dRet (dCall (m_box_at (m_term_at n)) (dCons (dVar 0) (dCons (dVar 1) (dCons (dOp rSub (dVar 2) (dC (.int 1))) dNil))))) dNext)
    (dSeq (dIfS (dTest (dStarts (dVar 0) (dCons (dC (.str "{")) (dCons (dVar 1) dNil)))) (dRet (dCall (m_shut_at (m_term_at n)) (dCons (dVar 0) (dCons (dVar 1) (dCons (dOp rSub (dVar 2) (dC (.int 1))) dNil))))) dNext)
    (dRet (dCall (m_word_at (m_term_at n)) (dCons (dVar 0) (dCons (dVar 1) (dCons (dOp rSub (dVar 2) (dC (.int 1))) dNil)))))))))
end HD
namespace HD
open PySem PyProof.Rows L2
def m_read_any : DFn := dFn 3 2
    (dSeq (dAsg 2 (dCall (m_term_at 13) (dCons (dVar 0) (dCons (dC (.int 0)) (dCons (dC (.int 12)) dNil)))))
    (dSeq (dIfS (dOr (dTest (dOp rIs (dVar 2) (dC .non))) (dOr (dNot (dTest (dCall m_has_form (dCons (dOp rIx (dVar 2) (dC (.int 0))) (dCons (dVar 1) dNil))))) (dTest (dOp rNe (dCall (m_spelled 16) (dCons (dOp rIx (dVar 2) (dC (.int 0))) dNil)) (dVar 0))))) (dRet (dC .non)) dNext)
    (dRet (dOp rIx (dVar 2) (dC (.int 0))))))
end HD
namespace HD
open PySem PyProof.Rows L2
def m_read_pattern : DFn := dFn 2 1
    (dSeq (dIfS (dNot (dTest (dCB rIsi (dCons (dVar 0) (dCons (dC (.ty "str")) dNil))))) (dRaise "BadText" (dNeg (dC (.int 1)))) dNext)
    (dSeq (dAsg 1 (dCall m_read_any (dCons (dVar 0) (dCons (dC (.bl true)) dNil))))
    (dSeq (dIfS (dTest (dOp rIs (dVar 1) (dC .non))) (dRaise "BadText" (dC (.int 0))) dNext)
    (dRet (dVar 1)))))
end HD
namespace HD
open PySem PyProof.Rows L2
def m_read_term : DFn := dFn 2 1
    (dSeq (dIfS (dNot (dTest (dCB rIsi (dCons (dVar 0) (dCons (dC (.ty "str")) dNil))))) (dRaise "BadText" (dNeg (dC (.int 1)))) dNext)
    (dSeq (dAsg 1 (dCall m_read_any (dCons (dVar 0) (dCons (dC (.bl false)) dNil))))
    (dSeq (dIfS (dTest (dOp rIs (dVar 1) (dC .non))) (dRaise "BadText" (dC (.int 0))) dNext)
    (dRet (dVar 1)))))
end HD
namespace HD
open PySem PyProof.Rows L2
def m_check_pattern : DFn := dFn 1 1
    (dIfS (dNot (dTest (dCall m_is_pattern (dCons (dVar 0) dNil)))) (dRaise "BadPattern" (dVar 0)) dNext)
end HD
namespace HD
open PySem PyProof.Rows L2
def m_worded_pattern : DFn := dFn 1 1
    (dSeq (dDrop (dCall m_check_pattern (dCons (dVar 0) dNil)))
    (dRet (dCall (m_spelled 16) (dCons (dVar 0) dNil))))
end HD
namespace HD
open PySem PyProof.Rows L2
def m_law_read : DFn := dFn 4 2
    (dSeq (dTry ["BadText"] fitE (dIfS (dTest (dOp rEq (dVar 0) (dC (.int 0)))) (dAsg 2 (dLst (dCons (dC (.str "told")) (dCons (dCall m_read_pattern (dCons (dVar 1) dNil)) dNil)))) (dAsg 2 (dLst (dCons (dC (.str "told")) (dCons (dCall m_read_term (dCons (dVar 1) dNil)) dNil))))) [("BadText", some 3, fun _ a dv => (dAsg 2 (dLst (dCons (dC (.str "text")) (dCons (dXf 3 a dv) dNil))))), ("TalkError", none, fun _ _ _ => (dAsg 2 (dLst (dCons (dC (.str "other")) dNil))))])
    (dRet (dVar 2)))
end HD
namespace HD
open PySem PyProof.Rows L2
def m_law_refused : DFn := dFn 3 1
    (dSeq (dTry ["BadPattern"] fitE (dAsg 1 (dLst (dCons (dC (.str "told")) (dCons (dCall m_worded_pattern (dCons (dVar 0) dNil)) dNil)))) [("BadPattern", some 2, fun _ a dv => (dAsg 1 (dLst (dCons (dC (.str "pattern")) (dCons (dXf 2 a dv) dNil))))), ("TalkError", none, fun _ _ _ => (dAsg 1 (dLst (dCons (dC (.str "other")) dNil))))])
    (dRet (dVar 1)))
end HD
namespace HD
open PySem PyProof.Rows L2
def m_law_pick : DFn := dFn 2 2
    (dRet (dOp rIx (dVar 1) (dCall m_draw (dCons (dVar 0) (dCons (dCB rLen (dCons (dVar 1) dNil)) dNil)))))
end HD
namespace HD
open PySem PyProof.Rows L2
def m_law_leaf : DFn := dFn 3 3
    (dSeq (dIfS (dAnd (dTest (dOp rGt (dCB rLen (dCons (dVar 2) dNil)) (dC (.int 0)))) (dOr (dTest (dOp rEq (dCB rLen (dCons (dVar 1) dNil)) (dC (.int 0)))) (dTest (dOp rGt (dCall m_draw (dCons (dVar 0) (dCons (dC (.int 4)) dNil))) (dC (.int 0)))))) (dRet (dTup (dCons (dC (.str "var")) (dCons (dCall m_law_pick (dCons (dVar 0) (dCons (dVar 2) dNil))) dNil)))) dNext)
    (dRet (dCall m_law_pick (dCons (dVar 0) (dCons (dVar 1) dNil)))))
end HD
namespace HD
open PySem PyProof.Rows L2
def m_law_pattern : Nat → DFn
  | 0 => fun _ _ _ => False
  | n + 1 => dFn 9 4
    (dSeq (dAsg 4 (dCall m_draw (dCons (dVar 0) (dCons (dC (.int 14)) dNil))))
    (dSeq (dIfS (dOr (dTest (dOp rEq (dVar 3) (dC (.int 1)))) (dTest (dOp rLt (dVar 4) (dC (.int 4))))) (dRet (dCall m_law_leaf (dCons (dVar 0) (dCons (dVar 1) (dCons (dVar 2) dNil))))) dNext)
    (dSeq (dIfS (dTest (dOp rLt (dVar 4) (dC (.int 7)))) (dSeq (dAsg 5 (dCall (m_law_pattern n) (dCons (dVar 0) (dCons (dVar 1) (dCons (dVar 2) (dCons (dOp rSub (dVar 3) (dC (.int 1))) dNil))))))
    (dRet (dTup (dCons (dC (.str "pair")) (dCons (dVar 5) (dCons (dCall (m_law_pattern n) (dCons (dVar 0) (dCons (dVar 1) (dCons (dVar 2) (dCons (dOp rSub (dVar 3) (dC (.int 1))) dNil))))) dNil)))))) dNext)
    (dSeq (dIfS (dTest (dOp rLt (dVar 4) (dC (.int 10)))) (dSeq (dAsg 6 (dCall m_law_leaf (dCons (dVar 0) (dCons (dVar 1) (dCons (dVar 2) dNil)))))
    (dSeq (dIfS (dTest (dOp rEq (dCall m_draw (dCons (dVar 0) (dCons (dC (.int 5)) dNil))) (dC (.int 0)))) (dAsg 6 (dCall (m_law_pattern n) (dCons (dVar 0) (dCons (dVar 1) (dCons (dVar 2) (dCons (dOp rSub (dVar 3) (dC (.int 1))) dNil)))))) dNext)
    (dRet (dTup (dCons (dC (.str "box")) (dCons (dVar 6) (dCons (dCall (m_law_pattern n) (dCons (dVar 0) (dCons (dVar 1) (dCons (dVar 2) (dCons (dOp rSub (dVar 3) (dC (.int 1))) dNil))))) dNil))))))) dNext)
    (dSeq (dAsg 7 (dCall m_law_leaf (dCons (dVar 0) (dCons (dVar 1) (dCons (dVar 2) dNil)))))
    (dSeq (dIfS (dTest (dOp rEq (dVar 4) (dC (.int 10)))) (dRet (dTup (dCons (dC (.str "half")) (dCons (dVar 7) dNil)))) dNext)
    (dSeq (dAsg 8 (dCall (m_law_pattern n) (dCons (dVar 0) (dCons (dVar 1) (dCons (dVar 2) (dCons (dOp rSub (dVar 3) (dC (.int 1))) dNil))))))
    (dSeq (dIfS (dTest (dOp rEq (dVar 4) (dC (.int 11)))) (dRet (dTup (dCons (dC (.str "shut")) (dCons (dVar 7) (dCons (dVar 8) dNil))))) dNext)
    (dSeq (dIfS (dTest (dOp rEq (dVar 4) (dC (.int 12)))) (dRet (dTup (dCons (dC (.str "mark")) (dCons (dVar 7) (dCons (dVar 8) dNil))))) dNext)
    (dRet (dTup (dCons (dC (.str "mix")) (dCons (dVar 8) dNil)))))))))))))
end HD
namespace HD
open PySem PyProof.Rows L2
def m_law_term : DFn := dFn 3 3
    (dRet (dCall (m_law_pattern 8) (dCons (dVar 0) (dCons (dVar 1) (dCons (dLst dNil) (dCons (dVar 2) dNil))))))
end HD
namespace HD
open PySem PyProof.Rows L2
def m_law_names : DFn := dFn 9 2
    (dSeq (dAsg 2 (dC (.str "abcdefghijklmnoprstuvwxyz")))
    (dSeq (dOwn 3 (dLst dNil))
    (dSeq (dFor (dRng1 (dCons (dVar 1) dNil)) (tName 4) (dSeq (dAsg 5 (dOp rIx (dLst (dCons (dC (.int 1)) (dCons (dC (.int 1)) (dCons (dC (.int 2)) (dCons (dC (.int 3)) (dCons (dC (.int 8)) dNil)))))) (dCall m_draw (dCons (dVar 0) (dCons (dC (.int 5)) dNil)))))
    (dSeq (dAsg 6 (dJoin (dC (.str "")) (dLc (dRng1 (dCons (dVar 5) dNil)) (tName 7) dYes (dOp rIx (dVar 2) (dCall m_draw (dCons (dVar 0) (dCons (dC (.int 25)) dNil)))) [7])))
    (dSeq (dIfS (dTest (dOp rEq (dCall m_draw (dCons (dVar 0) (dCons (dC (.int 12)) dNil))) (dC (.int 0)))) (dAsg 6 (dOp rIx (dLst (dCons (dC (.str "half")) (dCons (dC (.str "mix")) (dCons (dC (.str "pair")) (dCons (dC (.str "box")) (dCons (dC (.str "var")) (dCons (dC (.str "heard")) dNil))))))) (dCall m_draw (dCons (dVar 0) (dCons (dC (.int 6)) dNil))))) dNext)
    (dSeq (dIfS (dTest (dOpOwn (rIn false) (dVar 6) 3)) (dAsg 6 (dOp rIx (dLc (dItems (dVar 2)) (tName 8) (dTest (dOpOwn (rIn true) (dOp rAdd (dVar 8) (dC (.str "y"))) 3)) (dOp rAdd (dVar 8) (dC (.str "y"))) [8]) (dC (.int 0)))) dNext)
    (dAppend 3 (dVar 6)))))))
    (dFrz 3 (dRet (dVar 3))))))
end HD
namespace HD
open PySem PyProof.Rows L2
def m_is_row : DFn := dFn 1 1
    (dRet (dIsi2 "list" "tuple" (dVar 0)))
end HD
namespace HD
open PySem PyProof.Rows L2
def m_good_hearing : DFn := dFn 3 1
    (dSeq (dIfS (dOr (dNot (dTest (dCall m_is_row (dCons (dVar 0) dNil)))) (dTest (dOp rGt (dCB rLen (dCons (dVar 0) dNil)) (dC (.int 40))))) (dRaise "BadHearing" (dNeg (dC (.int 1)))) dNext)
    (dSeq (dFor (dEnum (dVar 0)) (tPair 1 2) (dIfS (dNot (dTest (dCall m_is_term (dCons (dVar 2) dNil)))) (dRaise "BadHearing" (dVar 1)) dNext))
    (dRet (dCB rTuple (dCons (dVar 0) dNil)))))
end HD
namespace HD
open PySem PyProof.Rows L2
def m_pieces : DFn := dFn 1 1
    (dSeq (dIfS (dTest (dOp rEq (dOp rIx (dVar 0) (dC (.int 0))) (dC (.str "shut")))) (dRet (dTup (dCons (dTup (dCons (dC (.str "half")) (dCons (dOp rIx (dVar 0) (dC (.int 1))) dNil))) (dCons (dOp rIx (dVar 0) (dC (.int 2))) dNil)))) dNext)
    (dRet (dSl (dVar 0) (dPart (dC (.int 1))) dNoPart)))
end HD
namespace HD
open PySem PyProof.Rows L2
def m_is_built : Nat → DFn
  | 0 => fun _ _ _ => False
  | n + 1 => dFn 3 2
    (dSeq (dIfS (dTest (dOp (rIn false) (dVar 1) (dVar 0))) (dRet (dC (.bl true))) dNext)
    (dRet (dAndV (dNotV (dCB rIsi (dCons (dVar 1) (dCons (dC (.ty "str")) dNil)))) (dCB rAll (dCons (dLc (dItems (dCall m_pieces (dCons (dVar 1) dNil))) (tName 2) dYes (dCall (m_is_built n) (dCons (dVar 0) (dCons (dVar 2) dNil))) [2]) dNil)))))
end HD
namespace HD
open PySem PyProof.Rows L2
def m_openings : DFn := dFn 2 2
    (dSeq (dIfS (dTest (dCB rIsi (dCons (dVar 1) (dCons (dC (.ty "str")) dNil)))) (dRet (dLst dNil)) dNext)
    (dSeq (dIfS (dTest (dOp rEq (dOp rIx (dVar 1) (dC (.int 0))) (dC (.str "pair")))) (dRet (dLst (dCons (dOp rIx (dVar 1) (dC (.int 1))) (dCons (dOp rIx (dVar 1) (dC (.int 2))) dNil)))) dNext)
    (dSeq (dIfS (dTest (dOp rEq (dOp rIx (dVar 1) (dC (.int 0))) (dC (.str "mark")))) (dRet (dLst (dCons (dOp rIx (dVar 1) (dC (.int 2))) dNil))) dNext)
    (dSeq (dIfS (dAnd (dTest (dOp (rIn false) (dOp rIx (dVar 1) (dC (.int 0))) (dTup (dCons (dC (.str "box")) (dCons (dC (.str "shut")) dNil))))) (dTest (dCall (m_is_built 14) (dCons (dVar 0) (dCons (dOp rIx (dVar 1) (dC (.int 1))) dNil))))) (dRet (dLst (dCons (dOp rIx (dVar 1) (dC (.int 2))) dNil))) dNext)
    (dRet (dLst dNil))))))
end HD
namespace HD
open PySem PyProof.Rows L2
def m_least_closed : DFn := dFn 5 1
    (dSeq (dOwn 1 (dDc (dItems (dVar 0)) (tName 3) dYes (dVar 3) (dC (.bl true)) [3]))
    (dSeq (dAsg 2 (dNeg (dC (.int 1))))
    (dSeq (dWhile (dTest (dOp rNe (dVar 2) (dCBOwn rLen 1))) (dSeq (dAsg 2 (dCBOwn rLen 1))
    (dFor (dItems (dListO 1)) (tName 3) (dFor (dItems (dCallD [1] m_openings (dCons (dLendD 1) (dCons (dVar 3) dNil)))) (tName 4) (dPut 1 (dVar 4) (dC (.bl true)))))))
    (dFrz 1 (dRet (dVar 1))))))
end HD
namespace HD
open PySem PyProof.Rows L2
def m_can_make : DFn := dFn 3 2
    (dSeq (dAsg 2 (dCall m_good_hearing (dCons (dVar 0) dNil)))
    (dSeq (dDrop (dCall m_check_term (dCons (dVar 1) dNil)))
    (dRet (dCall (m_is_built 14) (dCons (dCall m_least_closed (dCons (dVar 2) dNil)) (dCons (dVar 1) dNil))))))
end HD
namespace HD
open PySem PyProof.Rows L2
def m_law_parts : Nat → DFn
  | 0 => fun _ _ _ => False
  | n + 1 => dFn 4 1
    (dSeq (dAsg 1 (dLst (dCons (dVar 0) dNil)))
    (dSeq (dIfS (dNot (dTest (dCB rIsi (dCons (dVar 0) (dCons (dC (.ty "str")) dNil))))) (dFor (dItems (dSl (dVar 0) (dPart (dC (.int 1))) dNoPart)) (tName 2) (dAsg 1 (dOp rAdd (dVar 1) (dLc (dItems (dCall (m_law_parts n) (dCons (dVar 2) dNil))) (tName 3) (dTest (dOp (rIn true) (dVar 3) (dVar 1))) (dVar 3) [3])))) dNext)
    (dRet (dVar 1))))
end HD
namespace HD
open PySem PyProof.Rows L2
def m_law_hearing : DFn := dFn 7 3
    (dSeq (dOwn 3 (dLst dNil))
    (dSeq (dFor (dRng1 (dCons (dVar 2) dNil)) (tName 4) (dSeq (dAsg 5 (dCall m_draw (dCons (dVar 0) (dCons (dC (.int 6)) dNil))))
    (dSeq (dAsg 6 (dCall m_law_term (dCons (dVar 0) (dCons (dVar 1) (dCons (dC (.int 4)) dNil)))))
    (dSeq (dIfS (dTest (dOp rEq (dVar 5) (dC (.int 4)))) (dAsg 6 (dCall m_law_pick (dCons (dVar 0) (dCons (dVar 1) dNil)))) dNext)
    (dSeq (dIfS (dAnd (dTest (dOp rEq (dVar 5) (dC (.int 5)))) (dTest (dOp rGt (dCBOwn rLen 3) (dC (.int 0))))) (dAsg 6 (dCall m_law_pick (dCons (dVar 0) (dCons (dCall (m_law_parts 14) (dCons (dCallL [3] m_law_pick (dCons (dVar 0) (dCons (dLend 3) dNil))) dNil)) dNil)))) dNext)
    (dAppend 3 (dVar 6)))))))
    (dFrz 3 (dRet (dVar 3)))))
end HD
namespace HD
open PySem PyProof.Rows L2
def m_by_wordings : DFn := dFn 4 1
    (dSeq (dAsg 1 (dDc (dItems (dVar 0)) (tName 2) dYes (dCall (m_spelled 16) (dCons (dVar 2) dNil)) (dVar 2) [2]))
    (dRet (dLc (dItems (dCB rSort (dCons (dVar 1) dNil))) (tName 3) dYes (dOp rIx (dVar 1) (dVar 3)) [3])))
end HD
namespace HD
open PySem PyProof.Rows L2
def m_opened : DFn := dFn 1 1
    (dRet (dCall m_by_wordings (dCons (dCall m_least_closed (dCons (dCall m_good_hearing (dCons (dVar 0) dNil)) dNil)) dNil)))
end HD
namespace HD
open PySem PyProof.Rows L2
def m_closed_paper : DFn := dFn 4 2
    (dSeq (dAsg 2 (dCall m_good_hearing (dCons (dVar 0) dNil)))
    (dSeq (dDrop (dCall m_check_term (dCons (dVar 1) dNil)))
    (dSeq (dAsg 3 (dCall m_least_closed (dCons (dVar 2) dNil)))
    (dRet (dIf (dTest (dCall (m_is_built 14) (dCons (dVar 3) (dCons (dVar 1) dNil)))) (dC .non) (dCall m_by_wordings (dCons (dVar 3) dNil)))))))
end HD
namespace HD
open PySem PyProof.Rows L2
def m_is_closed_paper : DFn := dFn 8 3
    (dSeq (dAsg 3 (dCall m_good_hearing (dCons (dVar 0) dNil)))
    (dSeq (dDrop (dCall m_check_term (dCons (dVar 1) dNil)))
    (dSeq (dIfS (dOr (dNot (dTest (dCB rIsi (dCons (dVar 2) (dCons (dC (.ty "list")) dNil))))) (dNot (dTest (dCB rAll (dCons (dLc (dItems (dVar 2)) (tName 5) dYes (dCall m_is_term (dCons (dVar 5) dNil)) [5]) dNil))))) (dRet (dC (.bl false))) dNext)
    (dSeq (dAsg 4 (dDc (dItems (dVar 2)) (tName 5) dYes (dVar 5) (dC (.bl true)) [5]))
    (dSeq (dIfS (dOr (dTest (dCB rAny (dCons (dLc (dItems (dVar 3)) (tName 6) dYes (dOp (rIn true) (dVar 6) (dVar 4)) [6]) dNil))) (dTest (dCall (m_is_built 14) (dCons (dVar 4) (dCons (dVar 1) dNil))))) (dRet (dC (.bl false))) dNext)
    (dRet (dCB rAll (dCons (dLc2 (dItems (dVar 4)) (tName 5) dYes (dItems (dCall m_openings (dCons (dVar 4) (dCons (dVar 5) dNil)))) (tName 7) dYes (dOp (rIn false) (dVar 7) (dVar 4)) [5, 7] [7]) dNil))))))))
end HD
namespace HD
open PySem PyProof.Rows L2
def m_law_pieces : DFn := dFn 1 1
    (dSeq (dIfS (dTest (dOp rEq (dOp rIx (dVar 0) (dC (.int 0))) (dC (.str "shut")))) (dRet (dLst (dCons (dTup (dCons (dC (.str "half")) (dCons (dOp rIx (dVar 0) (dC (.int 1))) dNil))) (dCons (dOp rIx (dVar 0) (dC (.int 2))) dNil)))) dNext)
    (dRet (dCB rList (dCons (dSl (dVar 0) (dPart (dC (.int 1))) dNoPart) dNil))))
end HD
namespace HD
open PySem PyProof.Rows L2
def m_law_is_built : Nat → DFn
  | 0 => fun _ _ _ => False
  | n + 1 => dFn 3 2
    (dSeq (dIfS (dTest (dOp (rIn false) (dVar 1) (dVar 0))) (dRet (dC (.bl true))) dNext)
    (dSeq (dIfS (dTest (dCB rIsi (dCons (dVar 1) (dCons (dC (.ty "str")) dNil)))) (dRet (dC (.bl false))) dNext)
    (dRet (dOp rEq (dCB rLen (dCons (dLc (dItems (dCall m_law_pieces (dCons (dVar 1) dNil))) (tName 2) (dNot (dTest (dCall (m_law_is_built n) (dCons (dVar 0) (dCons (dVar 2) dNil))))) (dVar 2) [2]) dNil)) (dC (.int 0))))))
end HD
namespace HD
open PySem PyProof.Rows L2
def m_law_openings : DFn := dFn 2 2
    (dSeq (dIfS (dTest (dCB rIsi (dCons (dVar 1) (dCons (dC (.ty "str")) dNil)))) (dRet (dLst dNil)) dNext)
    (dSeq (dIfS (dTest (dOp rEq (dOp rIx (dVar 1) (dC (.int 0))) (dC (.str "pair")))) (dRet (dLst (dCons (dOp rIx (dVar 1) (dC (.int 1))) (dCons (dOp rIx (dVar 1) (dC (.int 2))) dNil)))) dNext)
    (dSeq (dIfS (dTest (dOp rEq (dOp rIx (dVar 1) (dC (.int 0))) (dC (.str "mark")))) (dRet (dLst (dCons (dOp rIx (dVar 1) (dC (.int 2))) dNil))) dNext)
    (dSeq (dIfS (dAnd (dTest (dOp (rIn false) (dOp rIx (dVar 1) (dC (.int 0))) (dLst (dCons (dC (.str "box")) (dCons (dC (.str "shut")) dNil))))) (dTest (dCall (m_law_is_built 16) (dCons (dVar 0) (dCons (dOp rIx (dVar 1) (dC (.int 1))) dNil))))) (dRet (dLst (dCons (dOp rIx (dVar 1) (dC (.int 2))) dNil))) dNext)
    (dRet (dLst dNil))))))
end HD
namespace HD
open PySem PyProof.Rows L2
def m_law_closed : DFn := dFn 6 1
    (dSeq (dOwn 1 dNewD)
    (dSeq (dFor (dItems (dVar 0)) (tName 2) (dPut 1 (dVar 2) (dC (.bl true))))
    (dSeq (dFor (dRng1 (dCons (dC (.int 1700)) dNil)) (tName 3) (dSeq (dAsg 4 (dCBOwn rLen 1))
    (dSeq (dFor (dItems (dListO 1)) (tName 2) (dFor (dItems (dCallD [1] m_law_openings (dCons (dLendD 1) (dCons (dVar 2) dNil)))) (tName 5) (dPut 1 (dVar 5) (dC (.bl true)))))
    (dIfS (dTest (dOp rEq (dCBOwn rLen 1) (dVar 4))) dBreak dNext))))
    (dFrz 1 (dRet (dVar 1))))))
end HD
namespace HD
open PySem PyProof.Rows L2
def m_law_same : Nat → DFn
  | 0 => fun _ _ _ => False
  | n + 1 => dFn 4 2
    (dSeq (dIfS (dTest (dOp rIs (dVar 1) (dC .non))) (dRet (dOp rIs (dVar 0) (dC .non))) dNext)
    (dSeq (dIfS (dOr (dTest (dCB rIsi (dCons (dVar 1) (dCons (dC (.ty "bool")) dNil)))) (dTest (dCB rIsi (dCons (dVar 0) (dCons (dC (.ty "bool")) dNil))))) (dRet (dAndV (dCB rIsi (dCons (dVar 1) (dCons (dC (.ty "bool")) dNil))) (dAndV (dCB rIsi (dCons (dVar 0) (dCons (dC (.ty "bool")) dNil))) (dOp rEq (dVar 0) (dVar 1))))) dNext)
    (dSeq (dIfS (dTest (dCB rIsi (dCons (dVar 1) (dCons (dC (.ty "int")) dNil)))) (dRet (dAndV (dCB rIsi (dCons (dVar 0) (dCons (dC (.ty "int")) dNil))) (dOp rEq (dVar 0) (dVar 1)))) dNext)
    (dSeq (dIfS (dTest (dCB rIsi (dCons (dVar 1) (dCons (dC (.ty "str")) dNil)))) (dRet (dAndV (dCB rIsi (dCons (dVar 0) (dCons (dC (.ty "str")) dNil))) (dOp rEq (dVar 0) (dVar 1)))) dNext)
    (dSeq (dIfS (dTest (dCB rIsi (dCons (dVar 1) (dCons (dC (.ty "dict")) dNil)))) (dSeq (dIfS (dOr (dNot (dTest (dCB rIsi (dCons (dVar 0) (dCons (dC (.ty "dict")) dNil))))) (dTest (dOp rNe (dCB rSort (dCons (dCB rList (dCons (dVar 0) dNil)) dNil)) (dCB rSort (dCons (dCB rList (dCons (dVar 1) dNil)) dNil))))) (dRet (dC (.bl false))) dNext)
    (dRet (dOp rEq (dCB rLen (dCons (dLc (dItems (dVar 1)) (tName 2) (dNot (dTest (dCall (m_law_same n) (dCons (dOp rIx (dVar 0) (dVar 2)) (dCons (dOp rIx (dVar 1) (dVar 2)) dNil))))) (dVar 2) [2]) dNil)) (dC (.int 0))))) dNext)
    (dSeq (dIfS (dOr (dTest (dOp rNe (dCB rIsi (dCons (dVar 1) (dCons (dC (.ty "list")) dNil))) (dCB rIsi (dCons (dVar 0) (dCons (dC (.ty "list")) dNil))))) (dNot (dTest (dIsi2 "list" "tuple" (dVar 0))))) (dRet (dC (.bl false))) dNext)
    (dSeq (dIfS (dTest (dOp rNe (dCB rLen (dCons (dVar 0) dNil)) (dCB rLen (dCons (dVar 1) dNil)))) (dRet (dC (.bl false))) dNext)
    (dRet (dOp rEq (dCB rLen (dCons (dLc (dRng1 (dCons (dCB rLen (dCons (dVar 1) dNil)) dNil)) (tName 3) (dNot (dTest (dCall (m_law_same n) (dCons (dOp rIx (dVar 0) (dVar 3)) (dCons (dOp rIx (dVar 1) (dVar 3)) dNil))))) (dVar 3) [3]) dNil)) (dC (.int 0)))))))))))
end HD
namespace HD
open PySem PyProof.Rows L2
def m_law_wanted : DFn := dFn 11 3
    (dSeq (dAsg 3 (dLst dNil))
    (dSeq (dFor (dItems (dVar 1)) (tName 4) (dAsg 3 (dOp rAdd (dVar 3) (dLc (dItems (dCall (m_law_parts 14) (dCons (dVar 4) dNil))) (tName 10) (dTest (dOp (rIn true) (dVar 10) (dVar 3))) (dVar 10) [10]))))
    (dSeq (dAsg 5 (dLst (dCons (dCall m_law_term (dCons (dVar 0) (dCons (dVar 2) (dCons (dC (.int 4)) dNil)))) (dCons (dCall m_law_term (dCons (dVar 0) (dCons (dVar 2) (dCons (dC (.int 2)) dNil)))) dNil))))
    (dSeq (dIfS (dTest (dOp rGt (dCB rLen (dCons (dVar 3) dNil)) (dC (.int 0)))) (dFor (dRng1 (dCons (dC (.int 3)) dNil)) (tName 6) (dSeq (dAsg 7 (dCall m_law_pick (dCons (dVar 0) (dCons (dVar 3) dNil))))
    (dSeq (dAsg 8 (dCall m_law_pick (dCons (dVar 0) (dCons (dVar 3) dNil))))
    (dAsg 5 (dOp rAdd (dVar 5) (dLst (dCons (dTup (dCons (dC (.str "box")) (dCons (dVar 7) (dCons (dVar 8) dNil)))) (dCons (dTup (dCons (dC (.str "pair")) (dCons (dVar 7) (dCons (dTup (dCons (dC (.str "mix")) (dCons (dVar 8) dNil))) dNil)))) dNil)))))))) dNext)
    (dSeq (dFor (dItems (dVar 2)) (tName 9) (dAsg 5 (dOp rAdd (dVar 5) (dLst (dCons (dVar 9) (dCons (dTup (dCons (dC (.str "half")) (dCons (dVar 9) dNil))) (dCons (dTup (dCons (dC (.str "shut")) (dCons (dVar 9) (dCons (dOp rIx (dVar 2) (dC (.int 0))) dNil)))) (dCons (dTup (dCons (dC (.str "mark")) (dCons (dVar 9) (dCons (dTup (dCons (dC (.str "half")) (dCons (dOp rIx (dVar 2) (dC (.int 0))) dNil))) dNil)))) dNil))))))))
    (dRet (dOp rAdd (dVar 3) (dVar 5))))))))
end HD
namespace HD
open PySem PyProof.Rows L2
def m_law_chain : DFn := dFn 9 3
    (dSeq (dAsg 3 (dC (.str "abcdefghijklmnopqrstuvwxy")))
    (dSeq (dAsg 4 (dLc (dRng1 (dCons (dVar 2) dNil)) (tName 6) dYes (dOp rAdd (dOp rIx (dLst (dCons (dC (.str "k")) (dCons (dC (.str "l")) dNil))) (dOp rFd (dVar 6) (dC (.int 25)))) (dOp rIx (dVar 3) (dOp rSub (dVar 6) (dOp rMul (dC (.int 25)) (dOp rFd (dVar 6) (dC (.int 25))))))) [6]))
    (dSeq (dOwn 5 (dLst dNil))
    (dSeq (dFor (dRng1 (dCons (dOp rSub (dVar 2) (dC (.int 1))) dNil)) (tName 6) (dSeq (dAsg 7 (dCall m_law_pick (dCons (dVar 0) (dCons (dLst (dCons (dOp rIx (dVar 4) (dOp rAdd (dVar 6) (dC (.int 1)))) (dCons (dTup (dCons (dC (.str "pair")) (dCons (dOp rIx (dVar 4) (dOp rAdd (dVar 6) (dC (.int 1)))) (dCons (dOp rIx (dVar 1) (dC (.int 0))) dNil)))) dNil))) dNil))))
    (dSeq (dAsg 8 (dLst (dCons (dTup (dCons (dC (.str "box")) (dCons (dOp rIx (dVar 4) (dVar 6)) (dCons (dVar 7) dNil)))) (dCons (dTup (dCons (dC (.str "shut")) (dCons (dOp rIx (dVar 4) (dVar 6)) (dCons (dVar 7) dNil)))) (dCons (dTup (dCons (dC (.str "box")) (dCons (dTup (dCons (dC (.str "mix")) (dCons (dOp rIx (dVar 4) (dVar 6)) dNil))) (dCons (dVar 7) dNil)))) dNil)))))
    (dInsert 5 (dOp rIx (dLst (dCons (dCBOwn rLen 5) (dCons (dC (.int 0)) (dCons (dCall m_draw (dCons (dVar 0) (dCons (dOp rAdd (dVar 6) (dC (.int 1))) dNil))) dNil)))) (dOp rSub (dVar 2) (dOp rMul (dC (.int 3)) (dOp rFd (dVar 2) (dC (.int 3)))))) (dCall m_law_pick (dCons (dVar 0) (dCons (dVar 8) dNil)))))))
    (dSeq (dInsert 5 (dCall m_draw (dCons (dVar 0) (dCons (dVar 2) dNil))) (dOp rIx (dVar 4) (dOp rMul (dCall m_draw (dCons (dVar 0) (dCons (dVar 2) dNil))) (dCB rInt (dCons (dOp rEq (dCall m_draw (dCons (dVar 0) (dCons (dC (.int 3)) dNil))) (dC (.int 0))) dNil)))))
    (dFrz 5 (dRet (dLst (dCons (dVar 5) (dCons (dVar 4) dNil))))))))))
end HD
namespace HD
open PySem PyProof.Rows L2
def m_law_chain_right : DFn := dFn 7 2
    (dSeq (dAsgT [2, 3] (dCall m_law_chain (dCons (dVar 0) (dCons (dVar 1) (dCons (dOp rAdd (dC (.int 17)) (dCall m_draw (dCons (dVar 0) (dCons (dC (.int 20)) dNil)))) dNil)))))
    (dSeq (dAsg 4 (dCall m_law_closed (dCons (dVar 2) dNil)))
    (dSeq (dAsg 5 (dOp rIx (dVar 3) (dOp rSub (dCB rLen (dCons (dVar 3) dNil)) (dC (.int 1)))))
    (dSeq (dFor (dItems (dLst (dCons (dVar 5) (dCons (dTup (dCons (dC (.str "half")) (dCons (dVar 5) dNil))) (dCons (dTup (dCons (dC (.str "pair")) (dCons (dVar 5) (dCons (dOp rIx (dVar 1) (dC (.int 0))) dNil)))) (dCons (dCall m_law_pick (dCons (dVar 0) (dCons (dVar 3) dNil))) dNil)))))) (tName 6) (dIfS (dNot (dTest (dCall (m_law_same 16) (dCons (dCall m_can_make (dCons (dVar 2) (dCons (dVar 6) dNil))) (dCons (dCall (m_law_is_built 16) (dCons (dVar 4) (dCons (dVar 6) dNil))) dNil))))) (dRet (dC (.bl false))) dNext))
    (dRet (dC (.bl true)))))))
end HD
namespace HD
open PySem PyProof.Rows L2
def m_law_spelled : Nat → DFn
  | 0 => fun _ _ _ => False
  | n + 1 => dFn 3 1
    (dSeq (dIfS (dTest (dCB rIsi (dCons (dVar 0) (dCons (dC (.ty "str")) dNil)))) (dRet (dVar 0)) dNext)
    (dSeq (dAsg 1 (dLc (dItems (dSl (dVar 0) (dPart (dC (.int 1))) dNoPart)) (tName 2) dYes (dCall (m_law_spelled n) (dCons (dVar 2) dNil)) [2]))
    (dSeq (dIfS (dTest (dOp rEq (dOp rIx (dVar 0) (dC (.int 0))) (dC (.str "pair")))) (dRet (dOp rAdd (dOp rAdd (dOp rAdd (dOp rAdd (dC (.str "(")) (dOp rIx (dVar 1) (dC (.int 0)))) (dC (.str " & "))) (dOp rIx (dVar 1) (dC (.int 1)))) (dC (.str ")")))) dNext)
    (dSeq (dIfS (dAnd (dTest (dOp rEq (dOp rIx (dVar 0) (dC (.int 0))) (dC (.str "box")))) (dTest (dCB rIsi (dCons (dOp rIx (dVar 0) (dC (.int 1))) (dCons (dC (.ty "str")) dNil))))) (dRet (dOp rAdd (dOp rAdd (dOp rAdd (dC (.str "[")) (dOp rIx (dVar 1) (dC (.int 1)))) (dC (.str "]"))) (dOp rIx (dVar 1) (dC (.int 0))))) dNext)
    (dSeq (dIfS (dTest (dOp rEq (dOp rIx (dVar 0) (dC (.int 0))) (dC (.str "box")))) (dRet (dOp rAdd (dOp rAdd (dOp rAdd (dOp rAdd (dC (.str "[")) (dOp rIx (dVar 1) (dC (.int 1)))) (dC (.str "]<"))) (dOp rIx (dVar 1) (dC (.int 0)))) (dC (.str ">")))) dNext)
    (dSeq (dIfS (dTest (dOp rEq (dOp rIx (dVar 0) (dC (.int 0))) (dC (.str "half")))) (dRet (dOp rAdd (dC (.str "half ")) (dOp rIx (dVar 1) (dC (.int 0))))) dNext)
    (dSeq (dIfS (dTest (dOp rEq (dOp rIx (dVar 0) (dC (.int 0))) (dC (.str "shut")))) (dRet (dOp rAdd (dOp rAdd (dOp rAdd (dC (.str "{")) (dOp rIx (dVar 1) (dC (.int 1)))) (dC (.str "}"))) (dOp rIx (dVar 1) (dC (.int 0))))) dNext)
    (dSeq (dIfS (dTest (dOp rEq (dOp rIx (dVar 0) (dC (.int 0))) (dC (.str "mark")))) (dRet (dOp rAdd (dOp rAdd (dOp rAdd (dOp rAdd (dC (.str "(")) (dOp rIx (dVar 1) (dC (.int 1)))) (dC (.str "!"))) (dOp rIx (dVar 1) (dC (.int 0)))) (dC (.str ")")))) dNext)
    (dRet (dOp rAdd (dOp rAdd (dC (.str "mix(")) (dOp rIx (dVar 1) (dC (.int 0)))) (dC (.str ")"))))))))))))
end HD
namespace HD
open PySem PyProof.Rows L2
def m_law_ascending : DFn := dFn 4 1
    (dSeq (dOwn 1 dNewD)
    (dSeq (dFor (dItems (dVar 0)) (tName 2) (dPut 1 (dCall (m_law_spelled 16) (dCons (dVar 2) dNil)) (dVar 2)))
    (dRet (dLc (dItems (dCB rSort (dCons (dListO 1) dNil))) (tName 3) dYes (dIxO 1 (dVar 3)) [3]))))
end HD
namespace HD
open PySem PyProof.Rows L2
def m_law_opens : DFn := dFn 2 2
    (dSeq (dIfS (dTest (dCB rIsi (dCons (dVar 1) (dCons (dC (.ty "str")) dNil)))) (dRet (dLst dNil)) dNext)
    (dSeq (dIfS (dTest (dOp rEq (dOp rIx (dVar 1) (dC (.int 0))) (dC (.str "pair")))) (dRet (dLst (dCons (dOp rIx (dVar 1) (dC (.int 1))) (dCons (dOp rIx (dVar 1) (dC (.int 2))) dNil)))) dNext)
    (dSeq (dIfS (dOr (dTest (dOp rEq (dOp rIx (dVar 1) (dC (.int 0))) (dC (.str "mark")))) (dAnd (dTest (dOp (rIn false) (dOp rIx (dVar 1) (dC (.int 0))) (dLst (dCons (dC (.str "box")) (dCons (dC (.str "shut")) dNil))))) (dTest (dGet2 (dVar 0) (dOp rIx (dVar 1) (dC (.int 1))) (dC (.bl false)))))) (dRet (dLst (dCons (dOp rIx (dVar 1) (dC (.int 2))) dNil))) dNext)
    (dRet (dLst dNil)))))
end HD
namespace HD
open PySem PyProof.Rows L2
def m_law_made : DFn := dFn 8 2
    (dSeq (dOwn 2 dNewD)
    (dSeq (dFor (dItems (dVar 0)) (tName 3) (dPut 2 (dVar 3) (dC (.bl true))))
    (dSeq (dFor (dRng1 (dCons (dC (.int 400)) dNil)) (tName 4) (dSeq (dAsg 5 (dCBOwn rLen 2))
    (dSeq (dFor (dItems (dVar 1)) (tName 3) (dSeq (dIfS (dAnd (dTest (dOpOwn (rIn true) (dVar 3) 2)) (dNot (dTest (dCB rIsi (dCons (dVar 3) (dCons (dC (.ty "str")) dNil)))))) (dIfS (dTest (dOp rEq (dCB rLen (dCons (dLc (dItems (dCall m_law_pieces (dCons (dVar 3) dNil))) (tName 7) (dNot (dTest (dGetO 2 (dVar 7) (dC (.bl false))))) (dVar 7) [7]) dNil)) (dC (.int 0)))) (dPut 2 (dVar 3) (dC (.bl true))) dNext) dNext)
    (dIfS (dTest (dGetO 2 (dVar 3) (dC (.bl false)))) (dFor (dItems (dCallD [2] m_law_opens (dCons (dLendD 2) (dCons (dVar 3) dNil)))) (tName 6) (dPut 2 (dVar 6) (dC (.bl true)))) dNext)))
    (dIfS (dTest (dOp rEq (dCBOwn rLen 2) (dVar 5))) dBreak dNext))))
    (dFrz 2 (dRet (dVar 2))))))
end HD
namespace HD
open PySem PyProof.Rows L2
def m_law_measure : Nat → DFn
  | 0 => fun _ _ _ => False
  | n + 1 => dFn 9 2
    (dSeq (dIfS (dTest (dCB rIsi (dCons (dVar 0) (dCons (dC (.ty "str")) dNil)))) (dSeq (dAsg 2 (dLc (dItems (dVar 0)) (tName 8) (dTest (dOp (rIn false) (dVar 8) (dC (.str "abcdefghijklmnopqrstuvwxyz")))) (dVar 8) [8]))
    (dSeq (dIfS (dOr (dTest (dOp rLt (dCB rLen (dCons (dVar 0) dNil)) (dC (.int 1)))) (dOr (dTest (dOp rGt (dCB rLen (dCons (dVar 0) dNil)) (dC (.int 8)))) (dTest (dOp rLt (dCB rLen (dCons (dVar 2) dNil)) (dCB rLen (dCons (dVar 0) dNil)))))) (dRet (dC .non)) dNext)
    (dRet (dLst (dCons (dC (.int 1)) (dCons (dC (.int 1)) dNil)))))) dNext)
    (dSeq (dAsg 3 (dDct (dCons (dC (.str "pair")) (dCons (dC (.int 3)) (dCons (dC (.str "box")) (dCons (dC (.int 3)) (dCons (dC (.str "half")) (dCons (dC (.int 2)) (dCons (dC (.str "shut")) (dCons (dC (.int 3)) (dCons (dC (.str "mark")) (dCons (dC (.int 3)) (dCons (dC (.str "mix")) (dCons (dC (.int 2)) dNil))))))))))))))
    (dSeq (dIfS (dOr (dTest (dOp rEq (dVar 1) (dC (.int 1)))) (dOr (dNot (dTest (dCB rIsi (dCons (dVar 0) (dCons (dC (.ty "tuple")) dNil))))) (dOr (dTest (dOp rEq (dCB rLen (dCons (dVar 0) dNil)) (dC (.int 0)))) (dNot (dTest (dCB rIsi (dCons (dOp rIx (dVar 0) (dC (.int 0))) (dCons (dC (.ty "str")) dNil)))))))) (dRet (dC .non)) dNext)
    (dSeq (dIfS (dTest (dOp rNe (dGet2 (dVar 3) (dOp rIx (dVar 0) (dC (.int 0))) (dC (.int 0))) (dCB rLen (dCons (dVar 0) dNil)))) (dRet (dC .non)) dNext)
    (dSeq (dIfS (dAnd (dTest (dOp (rIn false) (dOp rIx (dVar 0) (dC (.int 0))) (dLst (dCons (dC (.str "half")) (dCons (dC (.str "shut")) (dCons (dC (.str "mark")) dNil)))))) (dNot (dTest (dCB rIsi (dCons (dOp rIx (dVar 0) (dC (.int 1))) (dCons (dC (.ty "str")) dNil)))))) (dRet (dC .non)) dNext)
    (dSeq (dAsg 4 (dC (.int 0)))
    (dSeq (dAsg 5 (dC (.int 0)))
    (dSeq (dFor (dItems (dSl (dVar 0) (dPart (dC (.int 1))) dNoPart)) (tName 6) (dSeq (dAsg 7 (dCall (m_law_measure n) (dCons (dVar 6) (dCons (dOp rSub (dVar 1) (dC (.int 1))) dNil))))
    (dSeq (dIfS (dTest (dOp rIs (dVar 7) (dC .non))) (dRet (dC .non)) dNext)
    (dSeq (dAsg 4 (dOp rAdd (dVar 4) (dOp rIx (dVar 7) (dC (.int 0)))))
    (dAsg 5 (dCB rMax (dCons (dVar 5) (dCons (dOp rIx (dVar 7) (dC (.int 1))) dNil))))))))
    (dRet (dLst (dCons (dVar 4) (dCons (dOp rAdd (dVar 5) (dC (.int 1))) dNil))))))))))))
end HD
namespace HD
open PySem PyProof.Rows L2
def m_law_is_term : DFn := dFn 2 1
    (dSeq (dAsg 1 (dCall (m_law_measure 16) (dCons (dVar 0) (dCons (dC (.int 12)) dNil))))
    (dRet (dAndV (dOp rIsNot (dVar 1) (dC .non)) (dOp rLe (dOp rIx (dVar 1) (dC (.int 0))) (dC (.int 40))))))
end HD
namespace HD
open PySem PyProof.Rows L2
def m_law_deep : DFn := dFn 3 1
    (dSeq (dAsg 1 (dLst (dCons (dC (.int 0)) dNil)))
    (dSeq (dFor (dRng1 (dCons (dOp rSub (dVar 0) (dC (.int 1))) dNil)) (tName 2) (dAsg 1 (dLst (dCons (dVar 1) dNil))))
    (dRet (dVar 1))))
end HD
namespace HD
open PySem PyProof.Rows L2
def m_law_no_term : DFn := dFn 6 2
    (dSeq (dAsg 2 (dLst (dCons (dC .non) (dCons (dC (.int 0)) (dCons (dC (.bl true)) (dCons (dC (.str "")) (dCons (dC (.str "A")) (dCons (dC (.str "abcdefghi")) (dCons (dC (.str "a b")) (dCons (dLst dNil) (dCons (dTup dNil) (dCons dNewD (dCons (dLst (dCons (dC (.str "a")) dNil)) (dCons (dTup (dCons (dC (.str "a")) dNil)) (dCons (dTup (dCons (dC (.str "pair")) (dCons (dC (.str "a")) dNil))) dNil)))))))))))))))
    (dSeq (dAsg 2 (dOp rAdd (dVar 2) (dLst (dCons (dTup (dCons (dC (.str "pair")) (dCons (dC (.str "a")) (dCons (dC (.str "b")) (dCons (dC (.str "c")) dNil))))) (dCons (dTup (dCons (dC (.str "mark")) (dCons (dTup (dCons (dC (.str "pair")) (dCons (dC (.str "a")) (dCons (dC (.str "b")) dNil)))) (dCons (dC (.str "c")) dNil)))) dNil)))))
    (dSeq (dAsg 2 (dOp rAdd (dVar 2) (dLst (dCons (dTup (dCons (dC (.str "box")) (dCons (dC (.str "a")) dNil))) (dCons (dTup (dCons (dC (.str "half")) (dCons (dTup (dCons (dC (.str "half")) (dCons (dC (.str "a")) dNil))) dNil))) (dCons (dTup (dCons (dC (.str "half")) dNil)) (dCons (dTup (dCons (dC (.str "shut")) (dCons (dTup (dCons (dC (.str "mix")) (dCons (dC (.str "a")) dNil))) (dCons (dC (.str "b")) dNil)))) (dCons (dCall m_law_deep (dCons (dC (.int 90)) dNil)) dNil))))))))
    (dSeq (dAsg 2 (dOp rAdd (dVar 2) (dLst (dCons (dTup (dCons (dC (.str "mix")) dNil)) (dCons (dTup (dCons (dC (.str "mix")) (dCons (dC (.str "a")) (dCons (dC (.str "b")) dNil)))) (dCons (dTup (dCons (dC (.str "Mix")) (dCons (dC (.str "a")) dNil))) (dCons (dTup (dCons (dC (.str "var")) (dCons (dC (.str "x")) dNil))) (dCons (dTup (dCons (dLst (dCons (dC (.str "mix")) dNil)) (dCons (dC (.str "a")) dNil))) (dCons (dTup (dCons (dLst dNil) (dCons (dC (.str "a")) dNil))) (dCons (dLst (dCons (dC (.str "mix")) (dCons (dC (.str "a")) dNil))) dNil))))))))))
    (dSeq (dAsg 2 (dOp rAdd (dVar 2) (dLst (dCons (dTup (dCons (dC (.str "mix")) (dCons (dCall m_law_deep (dCons (dC (.int 90)) dNil)) dNil))) (dCons (dTup (dCons (dC (.str "mix")) (dCons (dTup (dCons (dC (.str "var")) (dCons (dC (.str "x")) dNil))) dNil))) (dCons (dTup (dCons (dTup (dCons (dC (.str "mix")) dNil)) (dCons (dC (.str "a")) dNil))) (dCons (dTup (dCons (dC .non) (dCons (dC (.str "a")) dNil))) (dCons (dDct (dCons (dC (.str "mix")) (dCons (dC (.str "a")) dNil))) dNil))))))))
    (dSeq (dAsg 3 (dCall m_law_pick (dCons (dVar 0) (dCons (dVar 2) dNil))))
    (dSeq (dFor (dRng1 (dCons (dC (.int 4)) dNil)) (tName 4) (dIfS (dTest (dOp rEq (dCall m_draw (dCons (dVar 0) (dCons (dC (.int 2)) dNil))) (dC (.int 0)))) (dSeq (dAsg 5 (dLst (dCons (dTup (dCons (dC (.str "mix")) (dCons (dVar 3) dNil))) (dCons (dTup (dCons (dC (.str "pair")) (dCons (dVar 1) (dCons (dVar 3) dNil)))) (dCons (dTup (dCons (dC (.str "box")) (dCons (dVar 3) (dCons (dVar 1) dNil)))) (dCons (dTup (dCons (dC (.str "mark")) (dCons (dC (.str "a")) (dCons (dVar 3) dNil)))) dNil))))))
    (dAsg 3 (dCall m_law_pick (dCons (dVar 0) (dCons (dVar 5) dNil))))) dNext))
    (dRet (dVar 3)))))))))
end HD
namespace HD
open PySem PyProof.Rows L2
def m_law_places : Nat → DFn
  | 0 => fun _ _ _ => False
  | n + 1 => dFn 4 1
    (dSeq (dIfS (dTest (dCB rIsi (dCons (dVar 0) (dCons (dC (.ty "str")) dNil)))) (dRet (dLst dNil)) dNext)
    (dSeq (dIfS (dTest (dOp rEq (dOp rIx (dVar 0) (dC (.int 0))) (dC (.str "var")))) (dRet (dLst (dCons (dOp rIx (dVar 0) (dC (.int 1))) dNil))) dNext)
    (dSeq (dAsg 1 (dLst dNil))
    (dSeq (dFor (dItems (dSl (dVar 0) (dPart (dC (.int 1))) dNoPart)) (tName 2) (dAsg 1 (dOp rAdd (dVar 1) (dLc (dItems (dCall (m_law_places n) (dCons (dVar 2) dNil))) (tName 3) (dTest (dOp (rIn true) (dVar 3) (dVar 1))) (dVar 3) [3]))))
    (dRet (dCB rSort (dCons (dVar 1) dNil)))))))
end HD
namespace HD
open PySem PyProof.Rows L2
def m_law_spoiled_e : DFn := dFn 5 2
    (dSeq (dAsg 2 (dCall m_draw (dCons (dVar 0) (dCons (dOp rAdd (dCB rLen (dCons (dVar 1) dNil)) (dC (.int 1))) dNil))))
    (dSeq (dAsg 3 (dOp rIx (dC (.str "abxy ?!&()[]{}<>A")) (dCall m_draw (dCons (dVar 0) (dCons (dC (.int 17)) dNil)))))
    (dSeq (dAsg 4 (dCall m_draw (dCons (dVar 0) (dCons (dC (.int 4)) dNil))))
    (dSeq (dIfS (dTest (dOp rEq (dVar 4) (dC (.int 0)))) (dRet (dOp rAdd (dOp rAdd (dSl (dVar 1) dNoPart (dPart (dVar 2))) (dVar 3)) (dSl (dVar 1) (dPart (dVar 2)) dNoPart))) dNext)
    (dSeq (dIfS (dTest (dOp rEq (dVar 4) (dC (.int 1)))) (dRet (dOp rAdd (dSl (dVar 1) dNoPart (dPart (dVar 2))) (dSl (dVar 1) (dPart (dOp rAdd (dVar 2) (dC (.int 1)))) dNoPart))) dNext)
    (dSeq (dIfS (dTest (dOp rEq (dVar 4) (dC (.int 2)))) (dRet (dOp rAdd (dOp rAdd (dSl (dVar 1) dNoPart (dPart (dVar 2))) (dVar 3)) (dSl (dVar 1) (dPart (dOp rAdd (dVar 2) (dC (.int 1)))) dNoPart))) dNext)
    (dRet (dOp rAdd (dSl (dVar 1) (dPart (dVar 2)) dNoPart) (dSl (dVar 1) dNoPart (dPart (dVar 2)))))))))))
end HD
namespace HD
open PySem PyProof.Rows L2
def m_worded : DFn := dFn 1 1
    (dSeq (dDrop (dCall m_check_term (dCons (dVar 0) dNil)))
    (dRet (dCall (m_spelled 16) (dCons (dVar 0) dNil))))
end HD
namespace HD
open PySem PyProof.Rows L2
def m_law_is_paper : DFn := dFn 7 3
    (dSeq (dIfS (dNot (dTest (dCB rIsi (dCons (dVar 2) (dCons (dC (.ty "list")) dNil))))) (dRet (dC (.bl false))) dNext)
    (dSeq (dFor (dItems (dVar 2)) (tName 3) (dIfS (dNot (dTest (dCall m_law_is_term (dCons (dVar 3) dNil)))) (dRet (dC (.bl false))) dNext))
    (dSeq (dOwn 4 dNewD)
    (dSeq (dFor (dItems (dVar 2)) (tName 3) (dPut 4 (dVar 3) (dC (.bl true))))
    (dSeq (dIfS (dOr (dTest (dOp rGt (dCB rLen (dCons (dLc (dItems (dVar 0)) (tName 5) (dTest (dOpOwn (rIn true) (dVar 5) 4)) (dVar 5) [5]) dNil)) (dC (.int 0)))) (dTest (dCallD [4] (m_law_is_built 16) (dCons (dLendD 4) (dCons (dVar 1) dNil))))) (dRet (dC (.bl false))) dNext)
    (dSeq (dFor (dItems (dVar 2)) (tName 3) (dIfS (dTest (dOp rGt (dCB rLen (dCons (dLc (dItems (dCallD [4] m_law_openings (dCons (dLendD 4) (dCons (dVar 3) dNil)))) (tName 6) (dTest (dOpOwn (rIn true) (dVar 6) 4)) (dVar 6) [6]) dNil)) (dC (.int 0)))) (dRet (dC (.bl false))) dNext))
    (dRet (dC (.bl true)))))))))
end HD
namespace HD
open PySem PyProof.Rows L2
def m_law_spoiled_b : DFn := dFn 7 4
    (dSeq (dAsg 4 (dCall m_draw (dCons (dVar 0) (dCons (dC (.int 7)) dNil))))
    (dSeq (dOwn 5 (dCB rList (dCons (dVar 2) dNil)))
    (dSeq (dAsg 6 (dCall m_draw (dCons (dVar 0) (dCons (dOp rAdd (dCBOwn rLen 5) (dC (.int 1))) dNil))))
    (dSeq (dIfS (dTest (dOp rEq (dVar 4) (dC (.int 0)))) (dFrz 5 (dRet (dOp rAdd (dSl (dVar 5) dNoPart (dPart (dVar 6))) (dSl (dVar 5) (dPart (dOp rAdd (dVar 6) (dC (.int 1)))) dNoPart)))) dNext)
    (dSeq (dIfS (dTest (dOp rEq (dVar 4) (dC (.int 1)))) (dInsert 5 (dVar 6) (dCall m_law_term (dCons (dVar 0) (dCons (dVar 1) (dCons (dC (.int 3)) dNil))))) (dIfS (dTest (dOp rEq (dVar 4) (dC (.int 2)))) (dInsert 5 (dVar 6) (dCall m_law_no_term (dCons (dVar 0) (dCons (dVar 3) dNil)))) (dIfS (dTest (dOp rEq (dVar 4) (dC (.int 3)))) (dFrz 5 (dRet (dCB rTuple (dCons (dVar 5) dNil)))) (dIfS (dTest (dOp rEq (dVar 4) (dC (.int 4)))) (dFrz 5 (dRet (dOp rAdd (dRev (dVar 5)) (dSl (dVar 5) dNoPart (dPart (dVar 6)))))) (dIfS (dTest (dOp rEq (dVar 4) (dC (.int 5)))) (dInsert 5 (dVar 6) (dCall m_law_pick (dCons (dVar 0) (dCons (dCall (m_law_parts 14) (dCons (dVar 3) dNil)) dNil)))) (dIfS (dTest (dOp rGt (dCBOwn rLen 5) (dC (.int 0)))) (dPutL 5 (dOp rSub (dVar 6) (dCB rInt (dCons (dOp rEq (dVar 6) (dCBOwn rLen 5)) dNil))) (dCall m_law_term (dCons (dVar 0) (dCons (dVar 1) (dCons (dC (.int 2)) dNil))))) dNext))))))
    (dFrz 5 (dRet (dVar 5))))))))
end HD
namespace HD
open PySem PyProof.Rows L2
def m_is_integer : DFn := dFn 1 1
    (dRet (dAndV (dCB rIsi (dCons (dVar 0) (dCons (dC (.ty "int")) dNil))) (dNotV (dCB rIsi (dCons (dVar 0) (dCons (dC (.ty "bool")) dNil))))))
end HD
namespace HD
open PySem PyProof.Rows L2
def m_is_between : DFn := dFn 3 3
    (dRet (dAndV (dCall m_is_integer (dCons (dVar 0) dNil)) (dChain rLe rLe (dVar 1) (dVar 0) (dVar 2))))
end HD
namespace HD
open PySem PyProof.Rows L2
def tab_ARITIES : List (Str × D) := [("pair", .int 2), ("box", .int 2), ("half", .int 1), ("shut", .int 2), ("mark", .int 2), ("mix", .int 1), ("left", .int 1), ("right", .int 1), ("unbox", .int 2), ("unshut", .int 2), ("read", .int 1), ("check", .int 2)]
end HD
namespace HD
open PySem PyProof.Rows L2
def m_is_recipe_step : DFn := dFn 3 2
    (dSeq (dIfS (dOr (dNot (dTest (dCB rIsi (dCons (dVar 0) (dCons (dC (.ty "tuple")) dNil))))) (dOr (dTest (dOp rEq (dCB rLen (dCons (dVar 0) dNil)) (dC (.int 0)))) (dNot (dTest (dCB rIsi (dCons (dOp rIx (dVar 0) (dC (.int 0))) (dCons (dC (.ty "str")) dNil))))))) (dRet (dC (.bl false))) dNext)
    (dSeq (dIfS (dTest (dOp rEq (dOp rIx (dVar 0) (dC (.int 0))) (dC (.str "heard")))) (dRet (dAndV (dOp rEq (dCB rLen (dCons (dVar 0) dNil)) (dC (.int 2))) (dAndV (dCall m_is_integer (dCons (dOp rIx (dVar 0) (dC (.int 1))) dNil)) (dOp rGe (dOp rIx (dVar 0) (dC (.int 1))) (dC (.int 0)))))) dNext)
    (dSeq (dIfS (dOr (dTest (dInTab true tab_ARITIES (dOp rIx (dVar 0) (dC (.int 0))))) (dTest (dOp rNe (dCB rLen (dCons (dVar 0) dNil)) (dOp rAdd (dC (.int 1)) (dIxTab tab_ARITIES (dOp rIx (dVar 0) (dC (.int 0)))))))) (dRet (dC (.bl false))) dNext)
    (dRet (dCB rAll (dCons (dLc (dItems (dSl (dVar 0) (dPart (dC (.int 1))) dNoPart)) (tName 2) dYes (dCall m_is_between (dCons (dVar 2) (dCons (dC (.int 0)) (dCons (dOp rSub (dVar 1) (dC (.int 1))) dNil)))) [2]) dNil))))))
end HD
namespace HD
open PySem PyProof.Rows L2
def m_is_recipe : DFn := dFn 3 1
    (dSeq (dIfS (dOr (dNot (dTest (dCB rIsi (dCons (dVar 0) (dCons (dC (.ty "tuple")) dNil))))) (dNot (dTest (dChain rLe rLe (dC (.int 1)) (dCB rLen (dCons (dVar 0) dNil)) (dC (.int 60000)))))) (dRet (dC (.bl false))) dNext)
    (dRet (dCB rAll (dCons (dLc (dEnum (dVar 0)) (tPair 1 2) dYes (dCall m_is_recipe_step (dCons (dVar 2) (dCons (dVar 1) dNil))) [1, 2]) dNil))))
end HD
namespace HD
open PySem PyProof.Rows L2
def m_check_recipe : DFn := dFn 1 1
    (dIfS (dNot (dTest (dCall m_is_recipe (dCons (dVar 0) dNil)))) (dRaise "BadRecipe" (dVar 0)) dNext)
end HD
namespace HD
open PySem PyProof.Rows L2
def m_built_term : DFn := dFn 3 2
    (dSeq (dIfS (dAnd (dTest (dOp (rIn false) (dVar 0) (dTup (dCons (dC (.str "half")) (dCons (dC (.str "mark")) dNil))))) (dNot (dTest (dCB rIsi (dCons (dOp rIx (dVar 1) (dC (.int 0))) (dCons (dC (.ty "str")) dNil)))))) (dRet (dC .non)) dNext)
    (dSeq (dIfS (dTest (dOp rEq (dVar 0) (dC (.str "shut")))) (dSeq (dIfS (dOr (dTest (dCB rIsi (dCons (dOp rIx (dVar 1) (dC (.int 0))) (dCons (dC (.ty "str")) dNil)))) (dTest (dOp rNe (dOp rIx (dOp rIx (dVar 1) (dC (.int 0))) (dC (.int 0))) (dC (.str "half"))))) (dRet (dC .non)) dNext)
    (dAsg 1 (dLst (dCons (dOp rIx (dOp rIx (dVar 1) (dC (.int 0))) (dC (.int 1))) (dCons (dOp rIx (dVar 1) (dC (.int 1))) dNil))))) dNext)
    (dSeq (dAsg 2 (dOp rAdd (dTup (dCons (dVar 0) dNil)) (dCB rTuple (dCons (dVar 1) dNil))))
    (dRet (dIf (dTest (dCall m_is_term (dCons (dVar 2) dNil))) (dVar 2) (dC .non))))))
end HD
namespace HD
open PySem PyProof.Rows L2
def m_opened_term : DFn := dFn 4 2
    (dSeq (dAsg 2 (dOp rIx (dVar 1) (dC (.int 0))))
    (dSeq (dIfS (dTest (dCB rIsi (dCons (dVar 2) (dCons (dC (.ty "str")) dNil)))) (dRet (dC .non)) dNext)
    (dSeq (dIfS (dTest (dOp (rIn false) (dVar 0) (dTup (dCons (dC (.str "left")) (dCons (dC (.str "right")) dNil))))) (dRet (dIf (dTest (dOp rEq (dOp rIx (dVar 2) (dC (.int 0))) (dC (.str "pair")))) (dOp rIx (dVar 2) (dOp rAdd (dC (.int 1)) (dCB rInt (dCons (dOp rEq (dVar 0) (dC (.str "right"))) dNil)))) (dC .non))) dNext)
    (dSeq (dIfS (dTest (dOp rEq (dVar 0) (dC (.str "read")))) (dRet (dIf (dTest (dOp rEq (dOp rIx (dVar 2) (dC (.int 0))) (dC (.str "mark")))) (dOp rIx (dVar 2) (dC (.int 2))) (dC .non))) dNext)
    (dSeq (dIfS (dTest (dOp rEq (dVar 0) (dC (.str "check")))) (dRet (dIf (dAnd (dTest (dOp rEq (dOp rIx (dVar 2) (dC (.int 0))) (dC (.str "mark")))) (dTest (dOp rEq (dOp rIx (dVar 1) (dC (.int 1))) (dTup (dCons (dC (.str "half")) (dCons (dOp rIx (dVar 2) (dC (.int 1))) dNil)))))) (dOp rIx (dVar 2) (dC (.int 2))) (dC .non))) dNext)
    (dSeq (dAsg 3 (dIf (dTest (dOp rEq (dVar 0) (dC (.str "unbox")))) (dC (.str "box")) (dC (.str "shut"))))
    (dRet (dIf (dAnd (dTest (dOp rEq (dOp rIx (dVar 2) (dC (.int 0))) (dVar 3))) (dTest (dOp rEq (dOp rIx (dVar 2) (dC (.int 1))) (dOp rIx (dVar 1) (dC (.int 1)))))) (dOp rIx (dVar 2) (dC (.int 2))) (dC .non)))))))))
end HD
namespace HD
open PySem PyProof.Rows L2
def m_played_step : DFn := dFn 5 3
    (dSeq (dIfS (dTest (dOp rEq (dOp rIx (dVar 1) (dC (.int 0))) (dC (.str "heard")))) (dRet (dIf (dTest (dOp rLt (dOp rIx (dVar 1) (dC (.int 1))) (dCB rLen (dCons (dVar 0) dNil)))) (dOp rIx (dVar 0) (dOp rIx (dVar 1) (dC (.int 1)))) (dC .non))) dNext)
    (dSeq (dAsg 3 (dLc (dItems (dSl (dVar 1) (dPart (dC (.int 1))) dNoPart)) (tName 4) dYes (dOp rIx (dVar 2) (dVar 4)) [4]))
    (dSeq (dIfS (dTest (dOp (rIn false) (dOp rIx (dVar 1) (dC (.int 0))) (dTup (dCons (dC (.str "left")) (dCons (dC (.str "right")) (dCons (dC (.str "unbox")) (dCons (dC (.str "unshut")) (dCons (dC (.str "read")) (dCons (dC (.str "check")) dNil))))))))) (dRet (dCall m_opened_term (dCons (dOp rIx (dVar 1) (dC (.int 0))) (dCons (dVar 3) dNil)))) dNext)
    (dRet (dCall m_built_term (dCons (dOp rIx (dVar 1) (dC (.int 0))) (dCons (dVar 3) dNil)))))))
end HD
namespace HD
open PySem PyProof.Rows L2
def m_played : DFn := dFn 6 2
    (dSeq (dAsg 2 (dCall m_good_hearing (dCons (dVar 0) dNil)))
    (dSeq (dDrop (dCall m_check_recipe (dCons (dVar 1) dNil)))
    (dSeq (dOwn 3 (dLst dNil))
    (dSeq (dFor (dItems (dVar 1)) (tName 4) (dSeq (dAsg 5 (dCallL [3] m_played_step (dCons (dVar 2) (dCons (dVar 4) (dCons (dLend 3) dNil)))))
    (dSeq (dIfS (dTest (dOp rIs (dVar 5) (dC .non))) (dRet (dC .non)) dNext)
    (dAppend 3 (dVar 5)))))
    (dRet (dIxO 3 (dNeg (dC (.int 1)))))))))
end HD
namespace HD
open PySem PyProof.Rows L2
def m_law_told_open : DFn := dFn 4 3
    (dSeq (dIfS (dTest (dCB rIsi (dCons (dVar 1) (dCons (dC (.ty "str")) dNil)))) (dRet (dC .non)) dNext)
    (dSeq (dAsg 3 (dDct (dCons (dC (.str "left")) (dCons (dC (.str "pair")) (dCons (dC (.str "right")) (dCons (dC (.str "pair")) (dCons (dC (.str "read")) (dCons (dC (.str "mark")) (dCons (dC (.str "check")) (dCons (dC (.str "mark")) (dCons (dC (.str "unbox")) (dCons (dC (.str "box")) (dCons (dC (.str "unshut")) (dCons (dC (.str "shut")) dNil))))))))))))))
    (dSeq (dIfS (dTest (dOp rNe (dOp rIx (dVar 1) (dC (.int 0))) (dOp rIx (dVar 3) (dVar 0)))) (dRet (dC .non)) dNext)
    (dSeq (dIfS (dTest (dOp rEq (dVar 0) (dC (.str "left")))) (dRet (dOp rIx (dVar 1) (dC (.int 1)))) dNext)
    (dSeq (dIfS (dAnd (dTest (dOp rEq (dVar 0) (dC (.str "check")))) (dTest (dOp rNe (dOp rIx (dVar 2) (dC (.int 1))) (dTup (dCons (dC (.str "half")) (dCons (dOp rIx (dVar 1) (dC (.int 1))) dNil)))))) (dRet (dC .non)) dNext)
    (dSeq (dIfS (dAnd (dTest (dOp (rIn false) (dVar 0) (dLst (dCons (dC (.str "unbox")) (dCons (dC (.str "unshut")) dNil))))) (dTest (dOp rNe (dOp rIx (dVar 2) (dC (.int 1))) (dOp rIx (dVar 1) (dC (.int 1)))))) (dRet (dC .non)) dNext)
    (dRet (dOp rIx (dVar 1) (dC (.int 2))))))))))
end HD
namespace HD
open PySem PyProof.Rows L2
def m_law_told : DFn := dFn 8 3
    (dSeq (dAsg 3 (dOp rIx (dVar 1) (dC (.int 0))))
    (dSeq (dIfS (dTest (dOp rEq (dVar 3) (dC (.str "heard")))) (dRet (dOp rIx (dOp rAdd (dCB rList (dCons (dVar 0) dNil)) (dLst (dCons (dC .non) dNil))) (dCB rMin (dCons (dOp rIx (dVar 1) (dC (.int 1))) (dCons (dCB rLen (dCons (dVar 0) dNil)) dNil))))) dNext)
    (dSeq (dAsg 4 (dLc (dItems (dSl (dVar 1) (dPart (dC (.int 1))) dNoPart)) (tName 7) dYes (dOp rIx (dVar 2) (dVar 7)) [7]))
    (dSeq (dAsg 5 (dOp rIx (dVar 4) (dC (.int 0))))
    (dSeq (dIfS (dTest (dOp (rIn false) (dVar 3) (dLst (dCons (dC (.str "left")) (dCons (dC (.str "right")) (dCons (dC (.str "read")) (dCons (dC (.str "check")) (dCons (dC (.str "unbox")) (dCons (dC (.str "unshut")) dNil))))))))) (dRet (dCall m_law_told_open (dCons (dVar 3) (dCons (dVar 5) (dCons (dVar 4) dNil))))) dNext)
    (dSeq (dIfS (dAnd (dTest (dOp (rIn false) (dVar 3) (dLst (dCons (dC (.str "half")) (dCons (dC (.str "mark")) dNil))))) (dNot (dTest (dCB rIsi (dCons (dVar 5) (dCons (dC (.ty "str")) dNil)))))) (dRet (dC .non)) dNext)
    (dSeq (dIfS (dTest (dOp rEq (dVar 3) (dC (.str "shut")))) (dSeq (dIfS (dOr (dTest (dCB rIsi (dCons (dVar 5) (dCons (dC (.ty "str")) dNil)))) (dTest (dOp rNe (dOp rIx (dVar 5) (dC (.int 0))) (dC (.str "half"))))) (dRet (dC .non)) dNext)
    (dAsg 4 (dLst (dCons (dOp rIx (dVar 5) (dC (.int 1))) (dCons (dOp rIx (dVar 4) (dC (.int 1))) dNil))))) dNext)
    (dSeq (dAsg 6 (dOp rAdd (dTup (dCons (dVar 3) dNil)) (dCB rTuple (dCons (dVar 4) dNil))))
    (dSeq (dIfS (dTest (dCall m_law_is_term (dCons (dVar 6) dNil))) (dRet (dVar 6)) dNext)
    (dRet (dC .non)))))))))))
end HD
namespace HD
open PySem PyProof.Rows L2
def m_law_played : DFn := dFn 5 2
    (dSeq (dOwn 2 (dLst dNil))
    (dSeq (dFor (dItems (dVar 1)) (tName 3) (dSeq (dAsg 4 (dCallL [2] m_law_told (dCons (dVar 0) (dCons (dVar 3) (dCons (dLend 2) dNil)))))
    (dSeq (dIfS (dTest (dOp rIs (dVar 4) (dC .non))) (dRet (dC .non)) dNext)
    (dAppend 2 (dVar 4)))))
    (dRet (dIxO 2 (dOp rSub (dCBOwn rLen 2) (dC (.int 1)))))))
end HD
namespace HD
open PySem PyProof.Rows L2
def m_leaves : Nat → DFn
  | 0 => fun _ _ _ => False
  | n + 1 => dFn 3 1
    (dSeq (dIfS (dOr (dTest (dCB rIsi (dCons (dVar 0) (dCons (dC (.ty "str")) dNil)))) (dTest (dOp rEq (dOp rIx (dVar 0) (dC (.int 0))) (dC (.str "var"))))) (dRet (dLst (dCons (dVar 0) dNil))) dNext)
    (dRet (dLc2 (dItems (dSl (dVar 0) (dPart (dC (.int 1))) dNoPart)) (tName 1) dYes (dItems (dCall (m_leaves n) (dCons (dVar 1) dNil))) (tName 2) dYes (dVar 2) [1, 2] [2])))
end HD
namespace HD
open PySem PyProof.Rows L2
def m_open_places : DFn := dFn 2 1
    (dRet (dSortZ (dSc (dItems (dCall (m_leaves 16) (dCons (dVar 0) dNil))) (tName 1) (dNot (dTest (dCB rIsi (dCons (dVar 1) (dCons (dC (.ty "str")) dNil))))) (dOp rIx (dVar 1) (dC (.int 1))) [1])))
end HD
namespace HD
open PySem PyProof.Rows L2
def m_put_in : Nat → DFn
  | 0 => fun _ _ _ => False
  | n + 1 => dFn 3 2
    (dSeq (dIfS (dTest (dCB rIsi (dCons (dVar 0) (dCons (dC (.ty "str")) dNil)))) (dRet (dVar 0)) dNext)
    (dSeq (dIfS (dTest (dOp rEq (dOp rIx (dVar 0) (dC (.int 0))) (dC (.str "var")))) (dRet (dGet2 (dVar 1) (dOp rIx (dVar 0) (dC (.int 1))) (dVar 0))) dNext)
    (dRet (dOp rAdd (dTup (dCons (dOp rIx (dVar 0) (dC (.int 0))) dNil)) (dCB rTuple (dCons (dLc (dItems (dSl (dVar 0) (dPart (dC (.int 1))) dNoPart)) (tName 2) dYes (dCall (m_put_in n) (dCons (dVar 2) (dCons (dVar 1) dNil))) [2]) dNil))))))
end HD
namespace HD
open PySem PyProof.Rows L2
def m_law_put : Nat → DFn
  | 0 => fun _ _ _ => False
  | n + 1 => dFn 3 2
    (dSeq (dIfS (dTest (dCB rIsi (dCons (dVar 0) (dCons (dC (.ty "str")) dNil)))) (dRet (dVar 0)) dNext)
    (dSeq (dIfS (dTest (dOp rEq (dOp rIx (dVar 0) (dC (.int 0))) (dC (.str "var")))) (dRet (dGet2 (dVar 1) (dOp rIx (dVar 0) (dC (.int 1))) (dVar 0))) dNext)
    (dRet (dOp rAdd (dTup (dCons (dOp rIx (dVar 0) (dC (.int 0))) dNil)) (dCB rTuple (dCons (dLc (dItems (dSl (dVar 0) (dPart (dC (.int 1))) dNoPart)) (tName 2) dYes (dCall (m_law_put n) (dCons (dVar 2) (dCons (dVar 1) dNil))) [2]) dNil))))))
end HD
namespace HD
open PySem PyProof.Rows L2
def m_is_name_dict : DFn := dFn 2 1
    (dRet (dAndV (dCB rIsi (dCons (dVar 0) (dCons (dC (.ty "dict")) dNil))) (dCB rAll (dCons (dLc (dItems (dVar 0)) (tName 1) dYes (dAndV (dCall m_is_name (dCons (dVar 1) dNil)) (dCall m_is_name (dCons (dOp rIx (dVar 0) (dVar 1)) dNil))) [1]) dNil))))
end HD
namespace HD
open PySem PyProof.Rows L2
def m_filled : DFn := dFn 3 2
    (dSeq (dDrop (dCall m_check_pattern (dCons (dVar 0) dNil)))
    (dSeq (dIfS (dOr (dNot (dTest (dCall m_is_name_dict (dCons (dVar 1) dNil)))) (dTest (dCB rAny (dCons (dLc (dItems (dCall m_open_places (dCons (dVar 0) dNil))) (tName 2) dYes (dOp (rIn true) (dVar 2) (dVar 1)) [2]) dNil)))) (dRaise "BadValues" (dVar 1)) dNext)
    (dRet (dCall (m_put_in 16) (dCons (dVar 0) (dCons (dVar 1) dNil))))))
end HD
namespace HD
open PySem PyProof.Rows L2
def m_law_asked_c : DFn := dFn 4 2
    (dSeq (dTry ["BadPattern", "BadValues"] fitE (dAsg 2 (dLst (dCons (dC (.str "told")) (dCons (dCall m_filled (dCons (dVar 0) (dCons (dVar 1) dNil))) dNil)))) [("BadPattern", some 3, fun _ a dv => (dAsg 2 (dLst (dCons (dC (.str "pattern")) (dCons (dXf 3 a dv) dNil))))), ("BadValues", some 3, fun _ a dv => (dAsg 2 (dLst (dCons (dC (.str "values")) (dCons (dXf 3 a dv) dNil))))), ("TalkError", none, fun _ _ _ => (dAsg 2 (dLst (dCons (dC (.str "other")) dNil))))])
    (dRet (dVar 2)))
end HD
namespace HD
open PySem PyProof.Rows L2
def m_law_refusals_right_b : DFn := dFn 7 2
    (dSeq (dAsg 2 (dLst (dCons (dC .non) (dCons (dC (.int 0)) (dCons (dLst dNil) (dCons (dC (.str "")) (dCons (dLst (dCons (dTup (dCons (dC (.str "x")) (dCons (dC (.str "a")) dNil))) dNil)) (dCons (dDct (dCons (dC (.str "x")) (dCons (dC (.str "A")) (dCons (dC (.str "y")) (dCons (dC (.str "a")) (dCons (dC (.str "zvar")) (dCons (dC (.str "a")) dNil))))))) (dCons (dDct (dCons (dC (.str "x")) (dCons (dC .non) dNil))) (dCons (dDct (dCons (dC (.int 0)) (dCons (dC (.str "a")) dNil))) dNil))))))))))
    (dSeq (dAsg 2 (dOp rAdd (dVar 2) (dLst (dCons (dDct (dCons (dTup (dCons (dC (.str "var")) (dCons (dC (.str "x")) dNil))) (dCons (dC (.str "a")) dNil))) (dCons (dDct (dCons (dC (.str "x")) (dCons (dLst (dCons (dC (.str "a")) dNil)) dNil))) dNil)))))
    (dSeq (dAsg 2 (dOp rAdd (dVar 2) (dLst (dCons (dDct (dCons (dC (.str "x")) (dCons (dC (.str "a")) (dCons (dC (.str "y")) (dCons (dC (.str "a")) (dCons (dC (.str "zvar")) (dCons (dC (.str "a")) (dCons (dC (.str "")) (dCons (dC (.str "a")) dNil))))))))) (dCons (dCall m_law_deep (dCons (dC (.int 90)) dNil)) dNil)))))
    (dSeq (dAsg 2 (dOp rAdd (dVar 2) (dLst (dCons (dDct (dCons (dC (.str "x")) (dCons (dC (.bl true)) (dCons (dC (.str "y")) (dCons (dC (.str "a")) (dCons (dC (.str "zvar")) (dCons (dC (.str "a")) dNil))))))) (dCons (dDct (dCons (dC (.str "x")) (dCons (dCall m_law_deep (dCons (dC (.int 80)) dNil)) dNil))) dNil)))))
    (dSeq (dAsg 3 (dCall m_law_pick (dCons (dVar 0) (dCons (dVar 2) dNil))))
    (dSeq (dAsg 4 (dCall m_law_asked_c (dCons (dVar 1) (dCons (dVar 3) dNil))))
    (dSeq (dIfS (dOr (dTest (dOp rNeX (dOp rIx (dVar 4) (dC (.int 0))) (dC (.str "values")))) (dTest (dOp rNeX (dOp rIx (dVar 4) (dC (.int 1))) (dVar 3)))) (dRet (dC (.bl false))) dNext)
    (dSeq (dAsg 5 (dLst (dCons (dC .non) (dCons (dC (.int 0)) (dCons (dC (.str "")) (dCons (dTup (dCons (dC (.str "var")) dNil)) (dCons (dTup (dCons (dC (.str "half")) (dCons (dTup (dCons (dC (.str "pair")) (dCons (dC (.str "a")) (dCons (dC (.str "b")) dNil)))) dNil))) (dCons (dLst (dCons (dC (.str "var")) (dCons (dC (.str "x")) dNil))) (dCons dNewD (dCons (dCall m_law_deep (dCons (dC (.int 90)) dNil)) dNil))))))))))
    (dSeq (dAsg 5 (dOp rAdd (dVar 5) (dLst (dCons (dTup (dCons (dLst dNil) dNil)) (dCons (dTup (dCons (dC (.str "mix")) dNil)) dNil)))))
    (dSeq (dAsg 6 (dCall m_law_pick (dCons (dVar 0) (dCons (dVar 5) dNil))))
    (dSeq (dAsg 4 (dCall m_law_asked_c (dCons (dVar 6) (dCons (dVar 3) dNil))))
    (dRet (dAndV (dOp rEqX (dOp rIx (dVar 4) (dC (.int 0))) (dC (.str "pattern"))) (dOp rEqX (dOp rIx (dVar 4) (dC (.int 1))) (dVar 6)))))))))))))))
end HD
namespace HD
open PySem PyProof.Rows L2
def m_names_of : DFn := dFn 1 1
    (dSeq (dDrop (dCall m_check_term (dCons (dVar 0) dNil)))
    (dRet (dSortZ (dSetOf (dCall (m_leaves 16) (dCons (dVar 0) dNil))))))
end HD
namespace HD
open PySem PyProof.Rows L2
def m_size_of : DFn := dFn 1 1
    (dSeq (dDrop (dCall m_check_term (dCons (dVar 0) dNil)))
    (dRet (dCB rLen (dCons (dCall (m_leaves 16) (dCons (dVar 0) dNil)) dNil))))
end HD
namespace HD
open PySem PyProof.Rows L2
def m_depth_of : DFn := dFn 1 1
    (dSeq (dDrop (dCall m_check_term (dCons (dVar 0) dNil)))
    (dRet (dOp rIx (dCall (m_measure 13) (dCons (dVar 0) (dCons (dC (.bl false)) (dCons (dC (.int 12)) dNil)))) (dC (.int 1)))))
end HD
namespace HD
open PySem PyProof.Rows L2
def m_replaced : Nat → DFn
  | 0 => fun _ _ _ => False
  | n + 1 => dFn 3 2
    (dSeq (dIfS (dTest (dCB rIsi (dCons (dVar 0) (dCons (dC (.ty "str")) dNil)))) (dRet (dGet2 (dVar 1) (dVar 0) (dVar 0))) dNext)
    (dRet (dOp rAdd (dTup (dCons (dOp rIx (dVar 0) (dC (.int 0))) dNil)) (dCB rTuple (dCons (dLc (dItems (dSl (dVar 0) (dPart (dC (.int 1))) dNoPart)) (tName 2) dYes (dCall (m_replaced n) (dCons (dVar 2) (dCons (dVar 1) dNil))) [2]) dNil)))))
end HD
namespace HD
open PySem PyProof.Rows L2
def m_law_replaced : Nat → DFn
  | 0 => fun _ _ _ => False
  | n + 1 => dFn 3 2
    (dSeq (dIfS (dTest (dCB rIsi (dCons (dVar 0) (dCons (dC (.ty "str")) dNil)))) (dRet (dGet2 (dVar 1) (dVar 0) (dVar 0))) dNext)
    (dRet (dOp rAdd (dTup (dCons (dOp rIx (dVar 0) (dC (.int 0))) dNil)) (dCB rTuple (dCons (dLc (dItems (dSl (dVar 0) (dPart (dC (.int 1))) dNoPart)) (tName 2) dYes (dCall (m_law_replaced n) (dCons (dVar 2) (dCons (dVar 1) dNil))) [2]) dNil)))))
end HD
namespace HD
open PySem PyProof.Rows L2
def m_renamed : DFn := dFn 2 2
    (dSeq (dDrop (dCall m_check_term (dCons (dVar 0) dNil)))
    (dSeq (dIfS (dNot (dTest (dCall m_is_name_dict (dCons (dVar 1) dNil)))) (dRaise "BadNames" (dVar 1)) dNext)
    (dRet (dCall (m_replaced 16) (dCons (dVar 0) (dCons (dVar 1) dNil))))))
end HD
namespace HD
open PySem PyProof.Rows L2
def m_law_asked_b : DFn := dFn 4 2
    (dSeq (dTry ["BadNames", "BadTerm"] fitE (dAsg 2 (dLst (dCons (dC (.str "told")) (dCons (dCall m_renamed (dCons (dVar 0) (dCons (dVar 1) dNil))) dNil)))) [("BadTerm", some 3, fun _ a dv => (dAsg 2 (dLst (dCons (dC (.str "term")) (dCons (dXf 3 a dv) dNil))))), ("BadNames", some 3, fun _ a dv => (dAsg 2 (dLst (dCons (dC (.str "names")) (dCons (dXf 3 a dv) dNil))))), ("TalkError", none, fun _ _ _ => (dAsg 2 (dLst (dCons (dC (.str "other")) dNil))))])
    (dRet (dVar 2)))
end HD
/-! GE4: {**d, k: v}, the keys texts. -/
namespace GD
open PySem PySem.Spec PyProof.Rows
section
variable {prog : Program} {w : World} {A : Around} {E : Value → Shared → Prop} {s : Shared} {d a : Addr} {k : PyData} {key : Value} {o oa : Obj} {es ea : Array DictEntry} {ep epa : Nat} {ks ka : List PyData}
/-- entries put one after the other -/
noncomputable def mrg (w : World) : List (PyData × DictEntry) → Array DictEntry × List PyData → Array DictEntry × List PyData
  | [], p => p
  | q :: r, p => mrg w r (putE w p.1 p.2 q.1 q.2.key q.2.val, putKs p.2 q.1)
end
section
variable {prog : Program} {w : World} {A : Around} {E : Value → Shared → Prop} {s : Shared} {ke ve xe : Expr} {env : Env} {pos : Pos} {Q : Value → Shared → Prop}
abbrev dNil : Obj := { cls := .type "dict", data := .dict #[] }
end
end GD
/-! GE5: {**d, k: v} over data. -/
namespace HD
open PySem PySem.Spec PyProof.Rows L2
section
variable {X : Cx} {F : Fx} {Cl : Str → Addr} {W : WX}
def dSplat (dv dk dx : DE) : DE := fun ρ Xd Q => dv ρ Xd fun d => ∃ (zs : List Str) (vs : List D), zs.length = vs.length ∧ d = .dct ((zs.map D.str).zip vs) ∧ dk ρ Xd fun k => dx ρ Xd fun x => ∃ z, k = .str z ∧ keyOk (.str z) ∧ zs.length + 1 < sizeLine ∧ Q (.dct (setD ((zs.map D.str).zip vs) (.str z) x))
end
end HD
namespace HD
open PySem PyProof.Rows L2
def m_fitted : Nat → DFn
  | 0 => fun _ _ _ => False
  | n + 1 => dFn 5 3
    (dSeq (dIfS (dAnd (dNot (dTest (dCB rIsi (dCons (dVar 0) (dCons (dC (.ty "str")) dNil))))) (dTest (dOp rEq (dOp rIx (dVar 0) (dC (.int 0))) (dC (.str "var"))))) (dSeq (dIfS (dOr (dNot (dTest (dCB rIsi (dCons (dVar 1) (dCons (dC (.ty "str")) dNil))))) (dTest (dOp rNe (dGet2 (dVar 2) (dOp rIx (dVar 0) (dC (.int 1))) (dVar 1)) (dVar 1)))) (dRet (dC .non)) dNext)
    (dRet (dSplat (dVar 2) (dOp rIx (dVar 0) (dC (.int 1))) (dVar 1)))) dNext)
    (dSeq (dIfS (dOr (dTest (dCB rIsi (dCons (dVar 0) (dCons (dC (.ty "str")) dNil)))) (dTest (dCB rIsi (dCons (dVar 1) (dCons (dC (.ty "str")) dNil))))) (dRet (dIf (dTest (dOp rEq (dVar 0) (dVar 1))) (dVar 2) (dC .non))) dNext)
    (dSeq (dIfS (dTest (dOp rNe (dOp rIx (dVar 0) (dC (.int 0))) (dOp rIx (dVar 1) (dC (.int 0))))) (dRet (dC .non)) dNext)
    (dSeq (dFor (dZip (dCons (dSl (dVar 0) (dPart (dC (.int 1))) dNoPart) (dCons (dSl (dVar 1) (dPart (dC (.int 1))) dNoPart) dNil))) (tPair 3 4) (dSeq (dAsg 2 (dCall (m_fitted n) (dCons (dVar 3) (dCons (dVar 4) (dCons (dVar 2) dNil)))))
    (dIfS (dTest (dOp rIs (dVar 2) (dC .non))) (dRet (dC .non)) dNext)))
    (dRet (dVar 2))))))
end HD
namespace HD
open PySem PyProof.Rows L2
def m_matched : DFn := dFn 3 3
    (dSeq (dDrop (dCall m_check_pattern (dCons (dVar 0) dNil)))
    (dSeq (dDrop (dCall m_check_term (dCons (dVar 1) dNil)))
    (dSeq (dIfS (dNot (dTest (dCall m_is_name_dict (dCons (dVar 2) dNil)))) (dRaise "BadValues" (dVar 2)) dNext)
    (dRet (dCall (m_fitted 16) (dCons (dVar 0) (dCons (dVar 1) (dCons (dCB rDict (dCons (dVar 2) dNil)) dNil))))))))
end HD
namespace HD
open PySem PyProof.Rows L2
def m_variables_of : DFn := dFn 1 1
    (dSeq (dDrop (dCall m_check_pattern (dCons (dVar 0) dNil)))
    (dRet (dCall m_open_places (dCons (dVar 0) dNil))))
end HD
namespace HD
open PySem PyProof.Rows L2
def m_law_only : DFn := dFn 4 2
    (dSeq (dOwn 2 dNewD)
    (dSeq (dFor (dItems (dVar 1)) (tName 3) (dPut 2 (dVar 3) (dOp rIx (dVar 0) (dVar 3))))
    (dFrz 2 (dRet (dVar 2)))))
end HD
namespace HD
open PySem PyProof.Rows L2
def m_law_named_anew : Nat → DFn
  | 0 => fun _ _ _ => False
  | n + 1 => dFn 3 2
    (dSeq (dIfS (dTest (dCB rIsi (dCons (dVar 0) (dCons (dC (.ty "str")) dNil)))) (dRet (dGet2 (dVar 1) (dVar 0) (dVar 0))) dNext)
    (dSeq (dIfS (dTest (dOp rEq (dOp rIx (dVar 0) (dC (.int 0))) (dC (.str "var")))) (dRet (dVar 0)) dNext)
    (dRet (dOp rAdd (dTup (dCons (dOp rIx (dVar 0) (dC (.int 0))) dNil)) (dCB rTuple (dCons (dLc (dItems (dSl (dVar 0) (dPart (dC (.int 1))) dNoPart)) (tName 2) dYes (dCall (m_law_named_anew n) (dCons (dVar 2) (dCons (dVar 1) dNil))) [2]) dNil))))))
end HD
namespace HD
open PySem PyProof.Rows L2
def m_law_renamed_right : DFn := dFn 6 4
    (dSeq (dAsg 4 (dCall (m_law_named_anew 16) (dCons (dVar 0) (dCons (dVar 2) dNil))))
    (dSeq (dAsg 5 (dCall m_law_only (dCons (dVar 3) (dCons (dCall m_variables_of (dCons (dVar 0) dNil)) dNil))))
    (dSeq (dIfS (dTest (dOp rNe (dCall m_filled (dCons (dVar 4) (dCons (dVar 3) dNil))) (dCall m_renamed (dCons (dVar 1) (dCons (dVar 2) dNil))))) (dRet (dC (.bl false))) dNext)
    (dRet (dCall (m_law_same 16) (dCons (dCall m_matched (dCons (dVar 4) (dCons (dCall m_renamed (dCons (dVar 1) (dCons (dVar 2) dNil))) (dCons dNewD dNil)))) (dCons (dVar 5) dNil)))))))
end HD
/-! GE6: a text in a text, of any length. -/
namespace HD
open PySem PySem.Spec PyProof.Rows L2
section
variable {X : Cx} {B : Bg}
/-- the text w stands somewhere in the text t -/
def hasT (t w : Str) : Bool := !(PySem.Builtin.Str.occurrences t w 0 t.length 1).isEmpty
def rInT (neg : Bool) : D2 := fun x y Q => ∃ i j, x = .str i ∧ y = .str j ∧ Q (.bl (neg ^^ hasT j i))
theorem oNotInT : OpD X B (compareOp .NotIn) (rInT true) := ⟨_, op_notin_str, fun O H x y dx dy Qd Q ob oa ix iy ⟨i, j, ex, ey, q⟩ k => by
  subst ex ey
  cases ix
  cases iy
  exact ⟨i, j, rfl, rfl, k _ (by rw [Bool.true_xor] at q; exact q) _ H (Ex.refl _ _) (.bl _)⟩⟩
end
end HD
namespace HD
open PySem PyProof.Rows L2
def m_all_parts : Nat → DFn
  | 0 => fun _ _ _ => False
  | n + 1 => dFn 3 1
    (dSeq (dIfS (dTest (dCB rIsi (dCons (dVar 0) (dCons (dC (.ty "str")) dNil)))) (dRet (dLst (dCons (dVar 0) dNil))) dNext)
    (dRet (dOp rAdd (dLst (dCons (dVar 0) dNil)) (dLc2 (dItems (dSl (dVar 0) (dPart (dC (.int 1))) dNoPart)) (tName 1) dYes (dItems (dCall (m_all_parts n) (dCons (dVar 1) dNil))) (tName 2) dYes (dVar 2) [1, 2] [2]))))
end HD
namespace HD
open PySem PyProof.Rows L2
def m_parts_of : DFn := dFn 2 1
    (dSeq (dDrop (dCall m_check_term (dCons (dVar 0) dNil)))
    (dRet (dCB rList (dCons (dDc (dItems (dCall (m_all_parts 16) (dCons (dVar 0) dNil))) (tName 1) dYes (dVar 1) (dC (.bl true)) [1]) dNil))))
end HD
namespace K06
open PySem PyProof.Rows L2 HD
def m_law : DS := (dSeq (dAsg 2 (dCall m_law_names (dCons (dVar 1) (dCons (dC (.int 2)) dNil))))
    (dSeq (dAsg 3 (dLc (dRng1 (dCons (dOp rAdd (dC (.int 2)) (dCall m_draw (dCons (dVar 1) (dCons (dC (.int 3)) dNil)))) dNil)) (tName 15) dYes (dCall m_law_term (dCons (dVar 1) (dCons (dVar 2) (dCons (dC (.int 4)) dNil)))) [15]))
    (dSeq (dAsg 4 (dLst dNil))
    (dSeq (dFor (dItems (dVar 3)) (tName 5) (dSeq (dAsg 4 (dOp rAdd (dVar 4) (dLc (dItems (dCall m_parts_of (dCons (dVar 5) dNil))) (tName 6) (dTest (dOp (rIn true) (dVar 6) (dVar 4))) (dVar 6) [6])))
    (dFor (dItems (dCall m_parts_of (dCons (dVar 5) dNil))) (tName 6) (dIfS (dTest (dOp (rInT true) (dCall m_worded (dCons (dVar 6) dNil)) (dCall m_worded (dCons (dVar 5) dNil)))) (dRet (dC (.bl false))) dNext))))
    (dSeq (dAsg 7 (dLc (dItems (dVar 4)) (tName 6) dYes (dCall m_worded (dCons (dVar 6) dNil)) [6]))
    (dSeq (dIfS (dTest (dOp rNe (dLenZ (dSetOf (dVar 7))) (dCB rLen (dCons (dVar 4) dNil)))) (dRet (dC (.bl false))) dNext)
    (dSeq (dAsg 8 (dDct (dCons (dOp rIx (dVar 2) (dC (.int 0))) (dCons (dC (.str "qx")) (dCons (dOp rIx (dVar 2) (dC (.int 1))) (dCons (dC (.str "qy")) dNil))))))
    (dSeq (dFor (dItems (dVar 3)) (tName 5) (dSeq (dAsg 9 (dCall m_renamed (dCons (dVar 5) (dCons (dVar 8) dNil))))
    (dSeq (dIfS (dNot (dTest (dCall (m_law_same 16) (dCons (dCall m_read_term (dCons (dCall m_worded (dCons (dVar 9) dNil)) dNil)) (dCons (dVar 9) dNil))))) (dRet (dC (.bl false))) dNext)
    (dSeq (dIfS (dNot (dTest (dCall (m_law_same 16) (dCons (dCall m_parts_of (dCons (dVar 9) dNil)) (dCons (dLc (dItems (dCall m_parts_of (dCons (dVar 5) dNil))) (tName 6) dYes (dCall m_renamed (dCons (dVar 6) (dCons (dVar 8) dNil))) [6]) dNil))))) (dRet (dC (.bl false))) dNext)
    (dSeq (dAsg 10 (dLc (dItems (dCall m_parts_of (dCons (dVar 5) dNil))) (tName 6) dYes (dCall m_renamed (dCons (dCall m_read_term (dCons (dCall m_worded (dCons (dVar 6) dNil)) dNil)) (dCons (dVar 8) dNil))) [6]))
    (dIfS (dTest (dOp rNe (dLc (dItems (dCall m_parts_of (dCons (dVar 9) dNil))) (tName 6) dYes (dCall m_worded (dCons (dVar 6) dNil)) [6]) (dLc (dItems (dVar 10)) (tName 6) dYes (dCall m_worded (dCons (dVar 6) dNil)) [6]))) (dRet (dC (.bl false))) dNext))))))
    (dSeq (dAsg 11 (dOp rIx (dVar 3) (dC (.int 0))))
    (dSeq (dAsg 9 (dOp rIx (dVar 3) (dC (.int 1))))
    (dSeq (dAsg 12 (dTup (dCons (dC (.str "pair")) (dCons (dVar 11) (dCons (dVar 9) dNil)))))
    (dSeq (dIfS (dNot (dTest (dCall (m_law_same 16) (dCons (dCall m_names_of (dCons (dVar 12) dNil)) (dCons (dSortZ (dSetOf (dOp rAdd (dCall m_names_of (dCons (dVar 11) dNil)) (dCall m_names_of (dCons (dVar 9) dNil))))) dNil))))) (dRet (dC (.bl false))) dNext)
    (dSeq (dAsg 13 (dLst (dCons (dOp rAdd (dCall m_size_of (dCons (dVar 11) dNil)) (dCall m_size_of (dCons (dVar 9) dNil))) (dCons (dOp rAdd (dC (.int 1)) (dCB rMax (dCons (dCall m_depth_of (dCons (dVar 11) dNil)) (dCons (dCall m_depth_of (dCons (dVar 9) dNil)) dNil)))) dNil))))
    (dSeq (dIfS (dNot (dTest (dCall (m_law_same 16) (dCons (dLst (dCons (dCall m_size_of (dCons (dVar 12) dNil)) (dCons (dCall m_depth_of (dCons (dVar 12) dNil)) dNil))) (dCons (dVar 13) dNil))))) (dRet (dC (.bl false))) dNext)
    (dSeq (dAsg 14 (dLc (dItems (dCall m_parts_of (dCons (dVar 9) dNil))) (tName 6) (dTest (dOp (rIn true) (dVar 6) (dCall m_parts_of (dCons (dVar 11) dNil)))) (dVar 6) [6]))
    (dRet (dCall (m_law_same 16) (dCons (dCall m_parts_of (dCons (dVar 12) dNil)) (dCons (dOp rAdd (dOp rAdd (dLst (dCons (dVar 12) dNil)) (dCall m_parts_of (dCons (dVar 11) dNil))) (dVar 14)) dNil)))))))))))))))))))
/-- what the law asks behind its bag -/
def LawOk : Prop := m_law { nx := fun _ => False, rt := fun d => d = .bl true, bk := fun _ => False, ct := fun _ => False, ex := fun _ _ => False } (none :: some (.val .bag) :: List.replicate 14 none)
def m_law15 : DS := (dRet (dCall (m_law_same 16) (dCons (dCall m_parts_of (dCons (dVar 12) dNil)) (dCons (dOp rAdd (dOp rAdd (dLst (dCons (dVar 12) dNil)) (dCall m_parts_of (dCons (dVar 11) dNil))) (dVar 14)) dNil))))
def m_law14 : DS := dSeq (dAsg 14 (dLc (dItems (dCall m_parts_of (dCons (dVar 9) dNil))) (tName 6) (dTest (dOp (rIn true) (dVar 6) (dCall m_parts_of (dCons (dVar 11) dNil)))) (dVar 6) [6])) m_law15
def m_law13 : DS := dSeq (dIfS (dNot (dTest (dCall (m_law_same 16) (dCons (dLst (dCons (dCall m_size_of (dCons (dVar 12) dNil)) (dCons (dCall m_depth_of (dCons (dVar 12) dNil)) dNil))) (dCons (dVar 13) dNil))))) (dRet (dC (.bl false))) dNext) m_law14
def m_law12 : DS := dSeq (dAsg 13 (dLst (dCons (dOp rAdd (dCall m_size_of (dCons (dVar 11) dNil)) (dCall m_size_of (dCons (dVar 9) dNil))) (dCons (dOp rAdd (dC (.int 1)) (dCB rMax (dCons (dCall m_depth_of (dCons (dVar 11) dNil)) (dCons (dCall m_depth_of (dCons (dVar 9) dNil)) dNil)))) dNil)))) m_law13
def m_law11 : DS := dSeq (dIfS (dNot (dTest (dCall (m_law_same 16) (dCons (dCall m_names_of (dCons (dVar 12) dNil)) (dCons (dSortZ (dSetOf (dOp rAdd (dCall m_names_of (dCons (dVar 11) dNil)) (dCall m_names_of (dCons (dVar 9) dNil))))) dNil))))) (dRet (dC (.bl false))) dNext) m_law12
def m_law10 : DS := dSeq (dAsg 12 (dTup (dCons (dC (.str "pair")) (dCons (dVar 11) (dCons (dVar 9) dNil))))) m_law11
def m_law9 : DS := dSeq (dAsg 9 (dOp rIx (dVar 3) (dC (.int 1)))) m_law10
def m_law8 : DS := dSeq (dAsg 11 (dOp rIx (dVar 3) (dC (.int 0)))) m_law9
def m_law7b4 : DS := (dIfS (dTest (dOp rNe (dLc (dItems (dCall m_parts_of (dCons (dVar 9) dNil))) (tName 6) dYes (dCall m_worded (dCons (dVar 6) dNil)) [6]) (dLc (dItems (dVar 10)) (tName 6) dYes (dCall m_worded (dCons (dVar 6) dNil)) [6]))) (dRet (dC (.bl false))) dNext)
def m_law7b3 : DS := dSeq (dAsg 10 (dLc (dItems (dCall m_parts_of (dCons (dVar 5) dNil))) (tName 6) dYes (dCall m_renamed (dCons (dCall m_read_term (dCons (dCall m_worded (dCons (dVar 6) dNil)) dNil)) (dCons (dVar 8) dNil))) [6])) m_law7b4
def m_law7b2 : DS := dSeq (dIfS (dNot (dTest (dCall (m_law_same 16) (dCons (dCall m_parts_of (dCons (dVar 9) dNil)) (dCons (dLc (dItems (dCall m_parts_of (dCons (dVar 5) dNil))) (tName 6) dYes (dCall m_renamed (dCons (dVar 6) (dCons (dVar 8) dNil))) [6]) dNil))))) (dRet (dC (.bl false))) dNext) m_law7b3
def m_law7b1 : DS := dSeq (dIfS (dNot (dTest (dCall (m_law_same 16) (dCons (dCall m_read_term (dCons (dCall m_worded (dCons (dVar 9) dNil)) dNil)) (dCons (dVar 9) dNil))))) (dRet (dC (.bl false))) dNext) m_law7b2
def m_law7b0 : DS := dSeq (dAsg 9 (dCall m_renamed (dCons (dVar 5) (dCons (dVar 8) dNil)))) m_law7b1
def m_law7 : DS := dSeq (dFor (dItems (dVar 3)) (tName 5) m_law7b0) m_law8
def m_law6 : DS := dSeq (dAsg 8 (dDct (dCons (dOp rIx (dVar 2) (dC (.int 0))) (dCons (dC (.str "qx")) (dCons (dOp rIx (dVar 2) (dC (.int 1))) (dCons (dC (.str "qy")) dNil)))))) m_law7
def m_law5 : DS := dSeq (dIfS (dTest (dOp rNe (dLenZ (dSetOf (dVar 7))) (dCB rLen (dCons (dVar 4) dNil)))) (dRet (dC (.bl false))) dNext) m_law6
def m_law4 : DS := dSeq (dAsg 7 (dLc (dItems (dVar 4)) (tName 6) dYes (dCall m_worded (dCons (dVar 6) dNil)) [6])) m_law5
def m_law3b1 : DS := (dFor (dItems (dCall m_parts_of (dCons (dVar 5) dNil))) (tName 6) (dIfS (dTest (dOp (rInT true) (dCall m_worded (dCons (dVar 6) dNil)) (dCall m_worded (dCons (dVar 5) dNil)))) (dRet (dC (.bl false))) dNext))
def m_law3b0 : DS := dSeq (dAsg 4 (dOp rAdd (dVar 4) (dLc (dItems (dCall m_parts_of (dCons (dVar 5) dNil))) (tName 6) (dTest (dOp (rIn true) (dVar 6) (dVar 4))) (dVar 6) [6]))) m_law3b1
def m_law3 : DS := dSeq (dFor (dItems (dVar 3)) (tName 5) m_law3b0) m_law4
def m_law2 : DS := dSeq (dAsg 4 (dLst dNil)) m_law3
def m_law1 : DS := dSeq (dAsg 3 (dLc (dRng1 (dCons (dOp rAdd (dC (.int 2)) (dCall m_draw (dCons (dVar 1) (dCons (dC (.int 3)) dNil)))) dNil)) (tName 15) dYes (dCall m_law_term (dCons (dVar 1) (dCons (dVar 2) (dCons (dC (.int 4)) dNil)))) [15])) m_law2
def m_law0 : DS := dSeq (dAsg 2 (dCall m_law_names (dCons (dVar 1) (dCons (dC (.int 2)) dNil)))) m_law1
abbrev De0 : DEnds := { nx := fun _ => False, rt := fun d => d = .bl true, bk := fun _ => False, ct := fun _ => False, ex := fun _ _ => False }
theorem law_of (h : m_law0 De0 (none :: some (.val .bag) :: List.replicate 14 none)) : LawOk := h
end K06
namespace K06
open PySem PyProof.Rows L2 HD
def top (i : Nat) : Stmt := PySem.Challenge.pw_sealedtalk_k06_whole_terms_and_wordings.main.body.getD i (.Pass ⟨0, 0, 0, 0⟩)
abbrev s_is_name : Stmt := top 3
theorem sc_is_name : FnScope ["thing", "letter"] ["thing"] (defScope s_is_name) := ⟨rfl, rfl, rfl, by decide +kernel, rfl, by decide +kernel, by decide +kernel⟩
abbrev s_is_name_dict : Stmt := top 4
theorem sc_is_name_dict : FnScope ["thing", "key"] ["thing"] (defScope s_is_name_dict) := ⟨rfl, rfl, rfl, by decide +kernel, rfl, by decide +kernel, by decide +kernel⟩
abbrev s_is_leaf : Stmt := top 22
theorem sc_is_leaf : FnScope ["thing", "open_so"] ["thing", "open_so"] (defScope s_is_leaf) := ⟨rfl, rfl, rfl, by decide +kernel, rfl, by decide +kernel, by decide +kernel⟩
abbrev s_measure : Stmt := top 23
theorem sc_measure : FnScope ["thing", "open_so", "room", "rows", "part", "row"] ["thing", "open_so", "room"] (defScope s_measure) := ⟨rfl, rfl, rfl, by decide +kernel, rfl, by decide +kernel, by decide +kernel⟩
abbrev s_has_form : Stmt := top 24
theorem sc_has_form : FnScope ["thing", "open_so", "found"] ["thing", "open_so"] (defScope s_has_form) := ⟨rfl, rfl, rfl, by decide +kernel, rfl, by decide +kernel, by decide +kernel⟩
abbrev s_is_term : Stmt := top 25
theorem sc_is_term : FnScope ["thing"] ["thing"] (defScope s_is_term) := ⟨rfl, rfl, rfl, by decide +kernel, rfl, by decide +kernel, by decide +kernel⟩
abbrev s_check_term : Stmt := top 26
theorem sc_check_term : FnScope ["term"] ["term"] (defScope s_check_term) := ⟨rfl, rfl, rfl, by decide +kernel, rfl, by decide +kernel, by decide +kernel⟩
abbrev s_leaves : Stmt := top 27
theorem sc_leaves : FnScope ["term", "part", "leaf"] ["term"] (defScope s_leaves) := ⟨rfl, rfl, rfl, by decide +kernel, rfl, by decide +kernel, by decide +kernel⟩
abbrev s_names_of : Stmt := top 28
theorem sc_names_of : FnScope ["term"] ["term"] (defScope s_names_of) := ⟨rfl, rfl, rfl, by decide +kernel, rfl, by decide +kernel, by decide +kernel⟩
abbrev s_all_parts : Stmt := top 29
theorem sc_all_parts : FnScope ["term", "part", "inner"] ["term"] (defScope s_all_parts) := ⟨rfl, rfl, rfl, by decide +kernel, rfl, by decide +kernel, by decide +kernel⟩
abbrev s_parts_of : Stmt := top 30
theorem sc_parts_of : FnScope ["term", "part"] ["term"] (defScope s_parts_of) := ⟨rfl, rfl, rfl, by decide +kernel, rfl, by decide +kernel, by decide +kernel⟩
abbrev s_size_of : Stmt := top 31
theorem sc_size_of : FnScope ["term"] ["term"] (defScope s_size_of) := ⟨rfl, rfl, rfl, by decide +kernel, rfl, by decide +kernel, by decide +kernel⟩
abbrev s_depth_of : Stmt := top 32
theorem sc_depth_of : FnScope ["term"] ["term"] (defScope s_depth_of) := ⟨rfl, rfl, rfl, by decide +kernel, rfl, by decide +kernel, by decide +kernel⟩
abbrev s_replaced : Stmt := top 33
theorem sc_replaced : FnScope ["term", "names", "part"] ["term", "names"] (defScope s_replaced) := ⟨rfl, rfl, rfl, by decide +kernel, rfl, by decide +kernel, by decide +kernel⟩
abbrev s_renamed : Stmt := top 34
theorem sc_renamed : FnScope ["term", "names"] ["term", "names"] (defScope s_renamed) := ⟨rfl, rfl, rfl, by decide +kernel, rfl, by decide +kernel, by decide +kernel⟩
abbrev s_spelled : Stmt := top 37
theorem sc_spelled : FnScope ["term", "parts", "bare", "part"] ["term"] (defScope s_spelled) := ⟨rfl, rfl, rfl, by decide +kernel, rfl, by decide +kernel, by decide +kernel⟩
abbrev s_worded : Stmt := top 38
theorem sc_worded : FnScope ["term"] ["term"] (defScope s_worded) := ⟨rfl, rfl, rfl, by decide +kernel, rfl, by decide +kernel, by decide +kernel⟩
abbrev s_word_end : Stmt := top 39
theorem sc_word_end : FnScope ["text", "at"] ["text", "at"] (defScope s_word_end) := ⟨rfl, rfl, rfl, by decide +kernel, rfl, by decide +kernel, by decide +kernel⟩
abbrev s_leaf_at : Stmt := top 40
theorem sc_leaf_at : FnScope ["text", "at", "first", "end"] ["text", "at"] (defScope s_leaf_at) := ⟨rfl, rfl, rfl, by decide +kernel, rfl, by decide +kernel, by decide +kernel⟩
abbrev s_behind : Stmt := top 41
theorem sc_behind : FnScope ["text", "found", "mark"] ["text", "found", "mark"] (defScope s_behind) := ⟨rfl, rfl, rfl, by decide +kernel, rfl, by decide +kernel, by decide +kernel⟩
abbrev s_round_at : Stmt := top 42
theorem sc_round_at : FnScope ["text", "at", "room", "first", "second"] ["text", "at", "room"] (defScope s_round_at) := ⟨rfl, rfl, rfl, by decide +kernel, rfl, by decide +kernel, by decide +kernel⟩
abbrev s_box_at : Stmt := top 43
theorem sc_box_at : FnScope ["text", "at", "room", "first", "second"] ["text", "at", "room"] (defScope s_box_at) := ⟨rfl, rfl, rfl, by decide +kernel, rfl, by decide +kernel, by decide +kernel⟩
abbrev s_shut_at : Stmt := top 44
theorem sc_shut_at : FnScope ["text", "at", "room", "first", "second"] ["text", "at", "room"] (defScope s_shut_at) := ⟨rfl, rfl, rfl, by decide +kernel, rfl, by decide +kernel, by decide +kernel⟩
abbrev s_word_at : Stmt := top 45
theorem sc_word_at : FnScope ["text", "at", "room", "end", "found"] ["text", "at", "room"] (defScope s_word_at) := ⟨rfl, rfl, rfl, by decide +kernel, rfl, by decide +kernel, by decide +kernel⟩
abbrev s_term_at : Stmt := top 46
theorem sc_term_at : FnScope ["text", "at", "room"] ["text", "at", "room"] (defScope s_term_at) := ⟨rfl, rfl, rfl, by decide +kernel, rfl, by decide +kernel, by decide +kernel⟩
abbrev s_read_any : Stmt := top 47
theorem sc_read_any : FnScope ["text", "open_so", "found"] ["text", "open_so"] (defScope s_read_any) := ⟨rfl, rfl, rfl, by decide +kernel, rfl, by decide +kernel, by decide +kernel⟩
abbrev s_read_term : Stmt := top 48
theorem sc_read_term : FnScope ["text", "term"] ["text"] (defScope s_read_term) := ⟨rfl, rfl, rfl, by decide +kernel, rfl, by decide +kernel, by decide +kernel⟩
abbrev s_law_bag : Stmt := top 50
theorem sc_law_bag : FnScope ["_law_script", "_law_seed", "_law_cell"] ["_law_script"] (defScope s_law_bag) := ⟨rfl, rfl, rfl, by decide +kernel, rfl, by decide +kernel, by decide +kernel⟩
abbrev s_law_draw : Stmt := top 51
theorem sc_law_draw : FnScope ["_law_bag_here", "_law_many", "_law_cell", "_law_digit", "_law_mixed"] ["_law_bag_here", "_law_many"] (defScope s_law_draw) := ⟨rfl, rfl, rfl, by decide +kernel, rfl, by decide +kernel, by decide +kernel⟩
abbrev s_law_same : Stmt := top 52
theorem sc_law_same : FnScope ["_law_actual", "_law_due", "_law_key", "_law_k"] ["_law_actual", "_law_due"] (defScope s_law_same) := ⟨rfl, rfl, rfl, by decide +kernel, rfl, by decide +kernel, by decide +kernel⟩
abbrev s_law_names : Stmt := top 53
theorem sc_law_names : FnScope ["_law_bag_here", "_law_many", "_law_letters", "_law_names_here", "_law_k", "_law_size", "_law_name", "_law_at", "_law_letter"] ["_law_bag_here", "_law_many"] (defScope s_law_names) := ⟨rfl, rfl, rfl, by decide +kernel, rfl, by decide +kernel, by decide +kernel⟩
abbrev s_law_pick : Stmt := top 54
theorem sc_law_pick : FnScope ["_law_bag_here", "_law_things"] ["_law_bag_here", "_law_things"] (defScope s_law_pick) := ⟨rfl, rfl, rfl, by decide +kernel, rfl, by decide +kernel, by decide +kernel⟩
abbrev s_law_leaf : Stmt := top 55
theorem sc_law_leaf : FnScope ["_law_bag_here", "_law_names_here", "_law_variables"] ["_law_bag_here", "_law_names_here", "_law_variables"] (defScope s_law_leaf) := ⟨rfl, rfl, rfl, by decide +kernel, rfl, by decide +kernel, by decide +kernel⟩
abbrev s_law_pattern : Stmt := top 56
theorem sc_law_pattern : FnScope ["_law_bag_here", "_law_names_here", "_law_variables", "_law_depth", "_law_kind", "_law_first", "_law_key", "_law_leaf_here", "_law_inner"] ["_law_bag_here", "_law_names_here", "_law_variables", "_law_depth"] (defScope s_law_pattern) := ⟨rfl, rfl, rfl, by decide +kernel, rfl, by decide +kernel, by decide +kernel⟩
abbrev s_law_term : Stmt := top 57
theorem sc_law_term : FnScope ["_law_bag_here", "_law_names_here", "_law_depth"] ["_law_bag_here", "_law_names_here", "_law_depth"] (defScope s_law_term) := ⟨rfl, rfl, rfl, by decide +kernel, rfl, by decide +kernel, by decide +kernel⟩
abbrev s_law : Stmt := top 58
theorem sc_law : FnScope ["_law_script", "_law_bag_here", "_law_names_here", "_law_terms", "_law_every", "_law_term_here", "_law_part", "_law_words", "_law_table", "_law_other", "_law_again", "_law_one", "_law_whole", "_law_due", "_law_rest", "_law_turn"] ["_law_script"] (defScope s_law) := ⟨rfl, rfl, rfl, by decide +kernel, rfl, by decide +kernel, by decide +kernel⟩
def ks : List Str := ["BadTerm", "BadNames", "BadText"]
structure Top (P : Program) (w : World) (K : PySem.W.Frag) (mg : Str → Option Value) : Prop where
  d_is_name : ∃ fd, FunD K "is_name" "is_name" (defArgs s_is_name) (defBody s_is_name) (defScope s_is_name) [] [] (He.fAd K ("is_name", none)) fd
  g_is_name : mg "is_name" = some (.ref (He.fAd K ("is_name", none)))
  d_is_name_dict : ∃ fd, FunD K "is_name_dict" "is_name_dict" (defArgs s_is_name_dict) (defBody s_is_name_dict) (defScope s_is_name_dict) [] [] (He.fAd K ("is_name_dict", none)) fd
  g_is_name_dict : mg "is_name_dict" = some (.ref (He.fAd K ("is_name_dict", none)))
  d_is_leaf : ∃ fd, FunD K "is_leaf" "is_leaf" (defArgs s_is_leaf) (defBody s_is_leaf) (defScope s_is_leaf) [] [] (He.fAd K ("is_leaf", none)) fd
  g_is_leaf : mg "is_leaf" = some (.ref (He.fAd K ("is_leaf", none)))
  d_measure : ∃ fd, FunD K "measure" "measure" (defArgs s_measure) (defBody s_measure) (defScope s_measure) [] [] (He.fAd K ("measure", none)) fd
  g_measure : mg "measure" = some (.ref (He.fAd K ("measure", none)))
  d_has_form : ∃ fd, FunD K "has_form" "has_form" (defArgs s_has_form) (defBody s_has_form) (defScope s_has_form) [] [] (He.fAd K ("has_form", none)) fd
  g_has_form : mg "has_form" = some (.ref (He.fAd K ("has_form", none)))
  d_is_term : ∃ fd, FunD K "is_term" "is_term" (defArgs s_is_term) (defBody s_is_term) (defScope s_is_term) [] [] (He.fAd K ("is_term", none)) fd
  g_is_term : mg "is_term" = some (.ref (He.fAd K ("is_term", none)))
  d_check_term : ∃ fd, FunD K "check_term" "check_term" (defArgs s_check_term) (defBody s_check_term) (defScope s_check_term) [] [] (He.fAd K ("check_term", none)) fd
  g_check_term : mg "check_term" = some (.ref (He.fAd K ("check_term", none)))
  d_leaves : ∃ fd, FunD K "leaves" "leaves" (defArgs s_leaves) (defBody s_leaves) (defScope s_leaves) [] [] (He.fAd K ("leaves", none)) fd
  g_leaves : mg "leaves" = some (.ref (He.fAd K ("leaves", none)))
  d_names_of : ∃ fd, FunD K "names_of" "names_of" (defArgs s_names_of) (defBody s_names_of) (defScope s_names_of) [] [] (He.fAd K ("names_of", none)) fd
  g_names_of : mg "names_of" = some (.ref (He.fAd K ("names_of", none)))
  d_all_parts : ∃ fd, FunD K "all_parts" "all_parts" (defArgs s_all_parts) (defBody s_all_parts) (defScope s_all_parts) [] [] (He.fAd K ("all_parts", none)) fd
  g_all_parts : mg "all_parts" = some (.ref (He.fAd K ("all_parts", none)))
  d_parts_of : ∃ fd, FunD K "parts_of" "parts_of" (defArgs s_parts_of) (defBody s_parts_of) (defScope s_parts_of) [] [] (He.fAd K ("parts_of", none)) fd
  g_parts_of : mg "parts_of" = some (.ref (He.fAd K ("parts_of", none)))
  d_size_of : ∃ fd, FunD K "size_of" "size_of" (defArgs s_size_of) (defBody s_size_of) (defScope s_size_of) [] [] (He.fAd K ("size_of", none)) fd
  g_size_of : mg "size_of" = some (.ref (He.fAd K ("size_of", none)))
  d_depth_of : ∃ fd, FunD K "depth_of" "depth_of" (defArgs s_depth_of) (defBody s_depth_of) (defScope s_depth_of) [] [] (He.fAd K ("depth_of", none)) fd
  g_depth_of : mg "depth_of" = some (.ref (He.fAd K ("depth_of", none)))
  d_replaced : ∃ fd, FunD K "replaced" "replaced" (defArgs s_replaced) (defBody s_replaced) (defScope s_replaced) [] [] (He.fAd K ("replaced", none)) fd
  g_replaced : mg "replaced" = some (.ref (He.fAd K ("replaced", none)))
  d_renamed : ∃ fd, FunD K "renamed" "renamed" (defArgs s_renamed) (defBody s_renamed) (defScope s_renamed) [] [] (He.fAd K ("renamed", none)) fd
  g_renamed : mg "renamed" = some (.ref (He.fAd K ("renamed", none)))
  d_spelled : ∃ fd, FunD K "spelled" "spelled" (defArgs s_spelled) (defBody s_spelled) (defScope s_spelled) [] [] (He.fAd K ("spelled", none)) fd
  g_spelled : mg "spelled" = some (.ref (He.fAd K ("spelled", none)))
  d_worded : ∃ fd, FunD K "worded" "worded" (defArgs s_worded) (defBody s_worded) (defScope s_worded) [] [] (He.fAd K ("worded", none)) fd
  g_worded : mg "worded" = some (.ref (He.fAd K ("worded", none)))
  d_word_end : ∃ fd, FunD K "word_end" "word_end" (defArgs s_word_end) (defBody s_word_end) (defScope s_word_end) [] [] (He.fAd K ("word_end", none)) fd
  g_word_end : mg "word_end" = some (.ref (He.fAd K ("word_end", none)))
  d_leaf_at : ∃ fd, FunD K "leaf_at" "leaf_at" (defArgs s_leaf_at) (defBody s_leaf_at) (defScope s_leaf_at) [] [] (He.fAd K ("leaf_at", none)) fd
  g_leaf_at : mg "leaf_at" = some (.ref (He.fAd K ("leaf_at", none)))
  d_behind : ∃ fd, FunD K "behind" "behind" (defArgs s_behind) (defBody s_behind) (defScope s_behind) [] [] (He.fAd K ("behind", none)) fd
  g_behind : mg "behind" = some (.ref (He.fAd K ("behind", none)))
  d_round_at : ∃ fd, FunD K "round_at" "round_at" (defArgs s_round_at) (defBody s_round_at) (defScope s_round_at) [] [] (He.fAd K ("round_at", none)) fd
  g_round_at : mg "round_at" = some (.ref (He.fAd K ("round_at", none)))
  d_box_at : ∃ fd, FunD K "box_at" "box_at" (defArgs s_box_at) (defBody s_box_at) (defScope s_box_at) [] [] (He.fAd K ("box_at", none)) fd
  g_box_at : mg "box_at" = some (.ref (He.fAd K ("box_at", none)))
  d_shut_at : ∃ fd, FunD K "shut_at" "shut_at" (defArgs s_shut_at) (defBody s_shut_at) (defScope s_shut_at) [] [] (He.fAd K ("shut_at", none)) fd
  g_shut_at : mg "shut_at" = some (.ref (He.fAd K ("shut_at", none)))
  d_word_at : ∃ fd, FunD K "word_at" "word_at" (defArgs s_word_at) (defBody s_word_at) (defScope s_word_at) [] [] (He.fAd K ("word_at", none)) fd
  g_word_at : mg "word_at" = some (.ref (He.fAd K ("word_at", none)))
  d_term_at : ∃ fd, FunD K "term_at" "term_at" (defArgs s_term_at) (defBody s_term_at) (defScope s_term_at) [] [] (He.fAd K ("term_at", none)) fd
  g_term_at : mg "term_at" = some (.ref (He.fAd K ("term_at", none)))
  d_read_any : ∃ fd, FunD K "read_any" "read_any" (defArgs s_read_any) (defBody s_read_any) (defScope s_read_any) [] [] (He.fAd K ("read_any", none)) fd
  g_read_any : mg "read_any" = some (.ref (He.fAd K ("read_any", none)))
  d_read_term : ∃ fd, FunD K "read_term" "read_term" (defArgs s_read_term) (defBody s_read_term) (defScope s_read_term) [] [] (He.fAd K ("read_term", none)) fd
  g_read_term : mg "read_term" = some (.ref (He.fAd K ("read_term", none)))
  d_law_bag : ∃ fd, FunD K "_law_bag" "_law_bag" (defArgs s_law_bag) (defBody s_law_bag) (defScope s_law_bag) [] [] (He.fAd K ("_law_bag", none)) fd
  g_law_bag : mg "_law_bag" = some (.ref (He.fAd K ("_law_bag", none)))
  d_law_draw : ∃ fd, FunD K "_law_draw" "_law_draw" (defArgs s_law_draw) (defBody s_law_draw) (defScope s_law_draw) [] [] (He.fAd K ("_law_draw", none)) fd
  g_law_draw : mg "_law_draw" = some (.ref (He.fAd K ("_law_draw", none)))
  d_law_same : ∃ fd, FunD K "_law_same" "_law_same" (defArgs s_law_same) (defBody s_law_same) (defScope s_law_same) [] [] (He.fAd K ("_law_same", none)) fd
  g_law_same : mg "_law_same" = some (.ref (He.fAd K ("_law_same", none)))
  d_law_names : ∃ fd, FunD K "_law_names" "_law_names" (defArgs s_law_names) (defBody s_law_names) (defScope s_law_names) [] [] (He.fAd K ("_law_names", none)) fd
  g_law_names : mg "_law_names" = some (.ref (He.fAd K ("_law_names", none)))
  d_law_pick : ∃ fd, FunD K "_law_pick" "_law_pick" (defArgs s_law_pick) (defBody s_law_pick) (defScope s_law_pick) [] [] (He.fAd K ("_law_pick", none)) fd
  g_law_pick : mg "_law_pick" = some (.ref (He.fAd K ("_law_pick", none)))
  d_law_leaf : ∃ fd, FunD K "_law_leaf" "_law_leaf" (defArgs s_law_leaf) (defBody s_law_leaf) (defScope s_law_leaf) [] [] (He.fAd K ("_law_leaf", none)) fd
  g_law_leaf : mg "_law_leaf" = some (.ref (He.fAd K ("_law_leaf", none)))
  d_law_pattern : ∃ fd, FunD K "_law_pattern" "_law_pattern" (defArgs s_law_pattern) (defBody s_law_pattern) (defScope s_law_pattern) [] [] (He.fAd K ("_law_pattern", none)) fd
  g_law_pattern : mg "_law_pattern" = some (.ref (He.fAd K ("_law_pattern", none)))
  d_law_term : ∃ fd, FunD K "_law_term" "_law_term" (defArgs s_law_term) (defBody s_law_term) (defScope s_law_term) [] [] (He.fAd K ("_law_term", none)) fd
  g_law_term : mg "_law_term" = some (.ref (He.fAd K ("_law_term", none)))
  d_law : ∃ fd, FunD K "law" "law" (defArgs s_law) (defBody s_law) (defScope s_law) [] [] (He.fAd K ("law", none)) fd
  g_law : mg "law" = some (.ref (He.fAd K ("law", none)))
  n_all : mg "all" = none
  n_bool : mg "bool" = none
  n_dict : mg "dict" = none
  n_int : mg "int" = none
  n_isinstance : mg "isinstance" = none
  n_len : mg "len" = none
  n_list : mg "list" = none
  n_max : mg "max" = none
  n_range : mg "range" = none
  n_set : mg "set" = none
  n_sorted : mg "sorted" = none
  n_str : mg "str" = none
  n_sum : mg "sum" = none
  n_super : mg "super" = none
  n_tuple : mg "tuple" = none
  c_AND : ∃ t, mg "AND" = some (.str " & " t)
  c_BOX : ∃ t, mg "BOX" = some (.str "box" t)
  c_HALF : ∃ t, mg "HALF" = some (.str "half" t)
  c_MARK : ∃ t, mg "MARK" = some (.str "mark" t)
  c_MIX : ∃ t, mg "MIX" = some (.str "mix" t)
  c_MOST_DEPTH : ∃ t, mg "MOST_DEPTH" = some (.int 12 t)
  c_MOST_LETTERS : ∃ t, mg "MOST_LETTERS" = some (.int 8 t)
  c_MOST_NAMES : ∃ t, mg "MOST_NAMES" = some (.int 40 t)
  c_PAIR : ∃ t, mg "PAIR" = some (.str "pair" t)
  c_SHUT : ∃ t, mg "SHUT" = some (.str "shut" t)
  c_SMALL : ∃ t, mg "SMALL" = some (.str "abcdefghijklmnopqrstuvwxyz" t)
  c_VAR : ∃ t, mg "VAR" = some (.str "var" t)
  g_NAMED : mg "NAMED" = some (.ref (He.ga K "NAMED"))
  u_NAMED : ∀ H, SqT K H (He.ga K "NAMED") ((["half", "shut", "mark"] : List Str).map V.str)
  g_LENGTHS : mg "LENGTHS" = some (.ref (He.ga K "LENGTHS"))
  b_LENGTHS : ∀ {X : Cx}, X.K = K → X.w = w → TabAt X (He.ga K "LENGTHS") tab_LENGTHS
  m_super : (P.main.scope.names.lookup ("super" : Str)).isSome = false
  g_BadTerm : mg "BadTerm" = some (.ref (He.ga K "BadTerm"))
  g_BadNames : mg "BadNames" = some (.ref (He.ga K "BadNames"))
  g_BadText : mg "BadText" = some (.ref (He.ga K "BadText"))
  s_BadTerm : SupC P K (He.ga K "BadTerm") (iniOf K "BadTerm") (fldOf "BadTerm")
  x_BadTerm : XfC K (He.ga K "BadTerm")
  o_BadTerm : PySem.W.findIn K (.ref (He.ga K "BadTerm")) "value" = some none
  f_BadTerm : fldOf "BadTerm" = "value"
  s_BadNames : SupC P K (He.ga K "BadNames") (iniOf K "BadNames") (fldOf "BadNames")
  x_BadNames : XfC K (He.ga K "BadNames")
  o_BadNames : PySem.W.findIn K (.ref (He.ga K "BadNames")) "value" = some none
  f_BadNames : fldOf "BadNames" = "value"
  s_BadText : SupC P K (He.ga K "BadText") (iniOf K "BadText") (fldOf "BadText")
  x_BadText : XfC K (He.ga K "BadText")
  o_BadText : PySem.W.findIn K (.ref (He.ga K "BadText")) "at" = some none
  f_BadText : fldOf "BadText" = "at"
section
variable {P : Program} {w : World} {K : PySem.W.Frag} {mg : Str → Option Value} {base : Heap}
theorem has_draw (T : Top P w K mg) : Has P w K mg base (He.ga K) "_law_draw" 2 m_draw := by
  obtain ⟨fd, D⟩ := T.d_law_draw
  refine ⟨_, fd, ["_law_bag_here", "_law_many"], T.g_law_draw, D.kp, D.bindsN fun _ _ _ _ _ _ us hl => match us, hl with | [_, _], _ => rfl, D.ok (k := 1) sc_law_draw (fun vs H Q E h => ?_) fun cdv A outer s H vs Q E hr h => ?_⟩
  · obtain ⟨B, m, rfl, _⟩ := draw_end h
    rfl
  obtain ⟨B, m, rfl, hm, hm2, ⟨nlb, ns, i, r, k, sd, hb, hl, hi, hr0, hk, hs, hs2⟩, kq⟩ := draw_end h
  have bx : ∀ (ys : List V) (i' r' k' sd' : Int), ys = [.ref B.l, .int i', .int r', .int k', .int sd'] → 0 ≤ i' → 0 ≤ r' → 0 ≤ k' → 0 ≤ sd' → sd' < 2147483629 → Ex B H (upd H B.b (.lst ys)) := fun ys i' r' k' sd' e h1 h2 h3 h4 h5 => ex_bag hb ⟨nlb, ns, i', r', k', sd', by rw [upd_same, e], by rw [upd_ne nlb]; exact hl, h1, h2, h3, h4, h5⟩
  have at_ : ∀ (xs : List V) (j : Nat) (v : V), xs.length = 5 → xs[j]? = some v → j < 5 → atI xs ((j : Nat) : Int) = some v := fun xs j v h1 h2 h3 => by
    unfold atI ixN
    rw [if_pos (by omega), if_pos (by omega)]
    simpa using h2
  have ix_ : ∀ (j : Nat), j < 5 → ixN 5 ((j : Nat) : Int) = some j := fun j h => by
    unfold ixN
    rw [if_pos (by omega), if_pos (by omega)]
    simp
  refine ⟨_, PSs.nox (pss_cons (ps_asg (pe_op op_add (pe_ix ix_list (pv 0) pe_int (fun _ _ => rfl)) pe_int) (pg_sub (pv 0) pe_int set_list))
    (Evl.pss_cut (ps_if (PW.pt (pw_and (pt_cmpR op_eq (pe_ix ix_list (pv 0) pe_int (fun _ _ => rfl)) pe_int (nomark _)) (pw_and1 (pt_cmpR op_lt (pe_ix ix_list (pv 0) pe_int (fun _ _ => rfl)) (pe_callB call_len_seq rfl T.n_len boot_len (pa_cons (pe_ix ix_list (pv 0) pe_int (fun _ _ => rfl)) pa_nil)) (nomark _)))))
      (pss_cons (ps_set (i := 2) sc_law_draw.nd rfl (Or.inl rfl) (pe_ix ix_list (pe_ix ix_list (pv 0) pe_int (fun _ _ => rfl)) (pe_ix ix_list (pv 0) pe_int (fun _ _ => rfl)) (fun _ _ => rfl)))
      (pss_cons (ps_asg (pe_op op_add (pe_ix ix_list (pv 0) pe_int (fun _ _ => rfl)) pe_int) (pg_sub (pv 0) pe_int set_list))
      (pss_one (ps_if (pt_cmpR op_ge (pv 2) (pe_op op_pow pe_int pe_int) (nomark _))
        (pss_one (ps_asg (pv 2) (pg_sub (pv 0) pe_int set_list)))
        (pss_one (ps_asg (pe_op op_mod (pe_callTy call_int1 rfl T.n_int boot_int (pa_cons (pe_op op_add (pe_op op_add (pe_op op_mul (pe_ix ix_list (pv 0) pe_int (fun _ _ => rfl)) pe_int) (pv 2)) pe_int) pa_nil)) pe_int) (pg_sub (pv 0) pe_int set_list)))))))
      pss_nil)
    (pss_cons (ps_if (pt_cmpR op_gt (pe_ix ix_list (pv 0) pe_int (fun _ _ => rfl)) pe_int (nomark _))
      (pss_cons (ps_set (i := 3) sc_law_draw.nd rfl (Or.inl rfl) (pe_op op_mod (pe_callTy call_int1 rfl T.n_int boot_int (pa_cons (pe_ix ix_list (pv 0) pe_int (fun _ _ => rfl)) pa_nil)) (pv 1)))
      (pss_cons (ps_asg (pe_op op_fdivW (pe_ix ix_list (pv 0) pe_int (fun _ _ => rfl)) (pv 1)) (pg_sub (pv 0) pe_int set_list))
      (pss_one (ps_ret (pv 3)))))
      pss_nil)
    (pss_cons (ps_set (i := 4) sc_law_draw.nd rfl (Or.inl rfl) (pe_op op_mod (pe_callTy call_int1 rfl T.n_int boot_int (pa_cons (pe_op op_add (pe_op op_add (pe_op op_mul (pe_ix ix_list (pv 0) pe_int (fun _ _ => rfl)) pe_int) (pe_op op_mul (pe_ix ix_list (pv 0) pe_int (fun _ _ => rfl)) pe_int)) pe_int) pa_nil)) pe_int))
    (pss_cons (ps_set (i := 4) sc_law_draw.nd rfl (Or.inl rfl) (pe_op op_mod (pe_callTy call_int1 rfl T.n_int boot_int (pa_cons (pe_op op_mul (pv 4) (pe_op op_add (pe_op op_fdivW (pv 4) pe_int) pe_int)) pa_nil)) pe_int))
    (pss_cons (ps_set (i := 4) sc_law_draw.nd rfl (Or.inl rfl) (pe_op op_mod (pe_callTy call_int1 rfl T.n_int boot_int (pa_cons (pe_op op_mul (pv 4) (pe_op op_add (pe_op op_fdivW (pv 4) pe_int) pe_int)) pa_nil)) pe_int))
    (pss_one (ps_ret (pe_op op_mod (pe_callTy call_int1 rfl T.n_int boot_int (pa_cons (pe_op op_fdivW (pv 4) pe_int) pa_nil)) (pv 1)))))))))), ?_⟩
  -- bag[3] = bag[3] + 1
  refine ⟨_, rfl, B.b, _, 3, .int k, rfl, rfl, SqL.of hb, at_ _ 3 _ rfl rfl (by decide), _, _, rfl, rfl, _, rfl, B.b, _, 3, 3, rfl, rfl, hb, ix_ 3 (by decide), ?_⟩
  -- the first if leaves a bag
  refine ⟨fun σ' H' => ∃ (c : Option V) (i' r' k' sd' : Int), σ' = [some (.ref B.b), some (.int m), c, none, none] ∧ H' = upd H B.b (.lst [.ref B.l, .int i', .int r', .int k', .int sd']) ∧ 0 ≤ i' ∧ 0 ≤ r' ∧ 0 ≤ k' ∧ 0 ≤ sd' ∧ sd' < 2147483629, ?_, ?_⟩
  · have hb1 : (upd H B.b (.lst [.ref B.l, .int i, .int r, .int (k + 1), .int sd])) B.b = some (.lst [.ref B.l, .int i, .int r, .int (k + 1), .int sd]) := upd_same
    have hl1 : (upd H B.b (.lst [.ref B.l, .int i, .int r, .int (k + 1), .int sd])) B.l = some (.lst (ns.map V.int)) := by rw [upd_ne nlb]; exact hl
    refine ⟨_, rfl, B.b, _, 2, .int r, rfl, rfl, SqL.of hb1, at_ _ 2 _ rfl rfl (by decide), rfl, _, rfl, ?_⟩
    have fin0 : ∃ (c : Option V) (i' r' k' sd' : Int), [some (V.ref B.b), some (.int m), none, none, none] = [some (.ref B.b), some (.int m), c, none, none] ∧ upd H B.b (.lst [.ref B.l, .int i, .int r, .int (k + 1), .int sd]) = upd H B.b (.lst [.ref B.l, .int i', .int r', .int k', .int sd']) ∧ 0 ≤ i' ∧ 0 ≤ r' ∧ 0 ≤ k' ∧ 0 ≤ sd' ∧ sd' < 2147483629 := ⟨none, i, r, k + 1, sd, rfl, rfl, hi, hr0, by omega, hs, hs2⟩
    refine ite2 (fun hr1 => ?_) (fun _ => ?_)
    · refine ⟨_, rfl, B.b, _, 1, .int i, rfl, rfl, SqL.of hb1, at_ _ 1 _ rfl rfl (by decide), _, rfl, B.b, _, 0, .ref B.l, rfl, rfl, SqL.of hb1, at_ _ 0 _ rfl rfl (by decide), B.l, _, rfl, .inl (SqL.of hl1), _, _, rfl, rfl, _, rfl, ?_⟩
      refine ite2 (fun hi1 => ?_) (fun _ => fin0)
      have hi2 : i < ((ns.map V.int).length : Int) := of_decide_eq_true hi1
      have hi3 : i.toNat < ns.length := by rw [List.length_map] at hi2; omega
      have hc : atI (ns.map V.int) i = some (.int ns[i.toNat]) := by
        unfold atI ixN
        rw [if_pos hi, if_pos hi2]
        simp [hi3]
      refine ⟨_, rfl, B.b, _, 0, .ref B.l, rfl, rfl, SqL.of hb1, at_ _ 0 _ rfl rfl (by decide), _, rfl, B.b, _, 1, .int i, rfl, rfl, SqL.of hb1, at_ _ 1 _ rfl rfl (by decide), B.l, _, i, _, rfl, rfl, SqL.of hl1, hc, ?_⟩
      refine ⟨_, rfl, B.b, _, 1, .int i, rfl, rfl, SqL.of hb1, at_ _ 1 _ rfl rfl (by decide), _, _, rfl, rfl, _, rfl, B.b, _, 1, 1, rfl, rfl, hb1, ix_ 1 (by decide), ?_⟩
      refine ⟨_, rfl, _, _, rfl, rfl, ⟨by decide, by decide, by decide⟩, _, _, rfl, rfl, _, rfl, ?_⟩
      have hb2 : (upd (upd H B.b (.lst [.ref B.l, .int i, .int r, .int (k + 1), .int sd])) B.b (.lst [.ref B.l, .int (i + 1), .int r, .int (k + 1), .int sd])) B.b = some (.lst [.ref B.l, .int (i + 1), .int r, .int (k + 1), .int sd]) := upd_same
      refine ite2 (fun hge => ?_) (fun _ => ?_)
      · have hge2 : ((10 : Int) ^ (18 : Int).toNat) ≤ ns[i.toNat] := of_decide_eq_true hge
        have hge3 : (0 : Int) ≤ (10 : Int) ^ (18 : Int).toNat := by decide
        refine ⟨_, rfl, _, rfl, B.b, _, 2, 2, rfl, rfl, hb2, ix_ 2 (by decide), ⟨some (.int ns[i.toNat]), i + 1, ns[i.toNat], k + 1, sd, rfl, ?_, by omega, by omega, by omega, hs, hs2⟩⟩
        show upd (upd (upd H B.b _) B.b _) B.b _ = _
        rw [upd_upd, upd_upd]
        rfl
      · refine ⟨_, rfl, B.b, _, 4, .int sd, rfl, rfl, SqL.of hb2, at_ _ 4 _ rfl rfl (by decide), _, _, rfl, rfl, .inr ⟨by decide, by decide⟩, _, rfl, _, _, rfl, rfl, _, _, rfl, rfl, .inl ⟨_, rfl, _, _, rfl, rfl, (by show (0 : Int) < _; decide), ?_⟩⟩
        refine ⟨_, rfl, B.b, _, 4, 4, rfl, rfl, hb2, ix_ 4 (by decide), ⟨some (.int ns[i.toNat]), i + 1, r, k + 1, (sd * 31 + ns[i.toNat] + 3203) % 2147483629, rfl, ?_, by omega, hr0, by omega, Int.emod_nonneg _ (by decide), Int.emod_lt_of_pos _ (by decide)⟩⟩
        show upd (upd (upd H B.b _) B.b _) B.b _ = _
        rw [upd_upd, upd_upd]
        rfl
    · exact fin0
  · rintro σ' H' ⟨c, i', r', k', sd', rfl, rfl, hi', hr', hk', hs', hs2'⟩
    have hb1 : (upd H B.b (.lst [.ref B.l, .int i', .int r', .int k', .int sd'])) B.b = some (.lst [.ref B.l, .int i', .int r', .int k', .int sd']) := upd_same
    refine ⟨_, rfl, B.b, _, 2, .int r', rfl, rfl, SqL.of hb1, at_ _ 2 _ rfl rfl (by decide), _, _, rfl, rfl, _, rfl, ?_⟩
    refine ite2 (fun hp => ?_) (fun _ => ?_)
    · refine ⟨_, rfl, B.b, _, 2, .int r', rfl, rfl, SqL.of hb1, at_ _ 2 _ rfl rfl (by decide), .inl ⟨_, rfl, _, rfl, _, _, rfl, rfl, hm, ?_⟩⟩
      refine ⟨_, rfl, B.b, _, 2, .int r', rfl, rfl, SqL.of hb1, at_ _ 2 _ rfl rfl (by decide), _, rfl, _, _, rfl, rfl, wide_div hm (b := 4000) (by omega) (by decide) (by decide), _, rfl, B.b, _, 2, 2, rfl, rfl, hb1, ix_ 2 (by decide), ?_⟩
      refine ⟨_, rfl, kq _ _ (Int.emod_nonneg _ (by omega)) (Int.emod_lt_of_pos _ hm) ?_⟩
      rw [upd_upd]
      exact bx _ i' (r' / m) k' sd' rfl hi' (Int.ediv_nonneg hr' (by omega)) hk' hs' hs2'
    · have mz : ∀ x : Int, (0 : Int) ≤ x % 2147483647 ∧ x % 2147483647 < 2147483647 := fun x => ⟨Int.emod_nonneg _ (by decide), Int.emod_lt_of_pos _ (by decide)⟩
      have big : ∀ x : Int, (0 : Int) ≤ x ∧ x < 2147483647 → -(2 ^ 64) < x ∧ x < 2 ^ 64 := fun x hx => ⟨by omega, by omega⟩
      have c32 : ∀ j : Int, 0 < j → j < 2 ^ 30 → ∀ x : Int, CDivW x j := fun j h1 h2 x => wide_div h1 (b := 30) (by omega) (by decide) (by decide)
      refine ⟨_, rfl, B.b, _, 4, .int sd', rfl, rfl, SqL.of hb1, at_ _ 4 _ rfl rfl (by decide), _, _, rfl, rfl, .inr ⟨by decide, by decide⟩, _, rfl, B.b, _, 3, .int k', rfl, rfl, SqL.of hb1, at_ _ 3 _ rfl rfl (by decide), _, _, rfl, rfl, .inr ⟨by decide, by decide⟩, _, _, rfl, rfl, _, _, rfl, rfl, .inl ⟨_, rfl, _, _, rfl, rfl, (by show (0 : Int) < _; decide), ?_⟩⟩
      refine ⟨_, rfl, _, rfl, _, _, rfl, rfl, c32 _ (by decide) (by decide) _, _, _, rfl, rfl, _, _, rfl, rfl, .inl (big _ (mz _)), .inl ⟨_, rfl, _, _, rfl, rfl, (by show (0 : Int) < _; decide), ?_⟩⟩
      refine ⟨_, rfl, _, rfl, _, _, rfl, rfl, c32 _ (by decide) (by decide) _, _, _, rfl, rfl, _, _, rfl, rfl, .inl (big _ (mz _)), .inl ⟨_, rfl, _, _, rfl, rfl, (by show (0 : Int) < _; decide), ?_⟩⟩
      refine ⟨_, rfl, _, _, rfl, rfl, c32 _ (by decide) (by decide) _, .inl ⟨_, rfl, _, rfl, _, _, rfl, rfl, hm, ?_⟩⟩
      exact kq _ _ (Int.emod_nonneg _ (by omega)) (Int.emod_lt_of_pos _ hm) (bx _ i' r' k' sd' rfl hi' hr' hk' hs' hs2')

theorem has_is_name (T : Top P w K mg) : Has P w K mg base (He.ga K) "is_name" 1 m_is_name := by
  obtain ⟨fd, D⟩ := T.d_is_name
  exact has_of (k := 0) D T.g_is_name sc_is_name rfl rfl (D.bindsN fun _ _ _ _ _ _ us hl => match us, hl with | [_], _ => rfl)
    (fun cdv A outer s H E b l O hr => by
    have tk : Takes (cxOf (L2.CX P w) P w K mg base ["thing", "letter"] "is_name" (defScope s_is_name) (He.fAd K ("is_name", none)) cdv A outer s H E) (fun cls d _ H => E cls d H) := takes_of rfl rfl rfl rfl
    have po : PassesOwn (model P w) (cxOf (L2.CX P w) P w K mg base ["thing", "letter"] "is_name" (defScope s_is_name) (He.fAd K ("is_name", none)) cdv A outer s H E).A (cxOf (L2.CX P w) P w K mg base ["thing", "letter"] "is_name" (defScope s_is_name) (He.fAd K ("is_name", none)) cdv A outer s H E).env (cxOf (L2.CX P w) P w K mg base ["thing", "letter"] "is_name" (defScope s_is_name) (He.fAd K ("is_name", none)) cdv A outer s H E).xe := po_of rfl
    exact (sCons (sIf (yW (wOr (yNot (yVal (xCallB cIsi rfl T.n_isinstance (by decide +kernel) (aCons (xVar (pv 0)) (aCons (xTy rfl T.n_str (by decide +kernel)) aNil))))) (wOr1 (yNot (yChainD oLe oLe xInt (xCallB (cLen rfl) rfl T.n_len (by decide +kernel) (aCons (xVar (pv 0)) aNil)) (xGInt T.c_MOST_LETTERS)))))) (sOne (sRet xBl)) sNil)
      (sOne (sRet (xCallB (cAll rfl) rfl T.n_all (by decide +kernel) (aCons (xNew (nLc rfl sc_is_name.nd (blkOk_by (own := [("letter", 1)]) (by kernel_rfl)) (iSeq (xVar (pv 0))) (fun _ _ _ _ _ _ => (gName1 (pg_name (i := 1) sc_is_name.nd rfl (by first | exact Or.inl rfl | exact Or.inr rfl)) (by decide))) (fun _ _ _ _ _ _ => tYesD) (fun _ _ _ _ _ _ => (xCmpD (oIn (hu65 hr) rfl) (xVar (pv 1)) (xGStr T.c_SMALL (okS_by (by decide +kernel))))))) aNil))))))
theorem has_is_name_dict (T : Top P w K mg) : Has P w K mg base (He.ga K) "is_name_dict" 2 m_is_name_dict := by
  obtain ⟨fd, D⟩ := T.d_is_name_dict
  have h_is_name := has_is_name (P := P) (base := base) T
  exact has_of (k := 1) D T.g_is_name_dict sc_is_name_dict rfl rfl (D.bindsN fun _ _ _ _ _ _ us hl => match us, hl with | [_], _ => rfl)
    (fun cdv A outer s H E b l O hr => by
    have tk : Takes (cxOf (L2.CX P w) P w K mg base ["thing", "key"] "is_name_dict" (defScope s_is_name_dict) (He.fAd K ("is_name_dict", none)) cdv A outer s H E) (fun cls d _ H => E cls d H) := takes_of rfl rfl rfl rfl
    have po : PassesOwn (model P w) (cxOf (L2.CX P w) P w K mg base ["thing", "key"] "is_name_dict" (defScope s_is_name_dict) (He.fAd K ("is_name_dict", none)) cdv A outer s H E).A (cxOf (L2.CX P w) P w K mg base ["thing", "key"] "is_name_dict" (defScope s_is_name_dict) (He.fAd K ("is_name_dict", none)) cdv A outer s H E).env (cxOf (L2.CX P w) P w K mg base ["thing", "key"] "is_name_dict" (defScope s_is_name_dict) (He.fAd K ("is_name_dict", none)) cdv A outer s H E).xe := po_of rfl
    exact (sOne (sRet (xAnd (xCallB cIsi rfl T.n_isinstance (by decide +kernel) (aCons (xVar (pv 0)) (aCons (xTy rfl T.n_dict (by decide +kernel)) aNil))) (xOne (xCallB (cAll rfl) rfl T.n_all (by decide +kernel) (aCons (xNew (nLc rfl sc_is_name_dict.nd (blkOk_by (own := [("key", 1)]) (by kernel_rfl)) (iSeq (xVar (pv 0))) (fun _ _ _ _ _ _ => (gName1 (pg_name (i := 1) sc_is_name_dict.nd rfl (by first | exact Or.inl rfl | exact Or.inr rfl)) (by decide))) (fun _ _ _ _ _ _ => tYesD) (fun _ _ _ _ _ _ => (xAnd (xCall h_is_name (hr.mono (by omega)) takes0 rfl (aCons (xVar (pv 1)) aNil)) (xOne (xCall h_is_name (hr.mono (by omega)) takes0 rfl (aCons (xIx (hu65 hr) (xVar (pv 0)) (xVar (pv 1))) aNil))))))) aNil)))))))
theorem has_is_leaf (T : Top P w K mg) : Has P w K mg base (He.ga K) "is_leaf" 2 m_is_leaf := by
  obtain ⟨fd, D⟩ := T.d_is_leaf
  have h_is_name := has_is_name (P := P) (base := base) T
  exact has_of (k := 1) D T.g_is_leaf sc_is_leaf rfl rfl (D.bindsN fun _ _ _ _ _ _ us hl => match us, hl with | [_, _], _ => rfl)
    (fun cdv A outer s H E b l O hr => by
    have tk : Takes (cxOf (L2.CX P w) P w K mg base ["thing", "open_so"] "is_leaf" (defScope s_is_leaf) (He.fAd K ("is_leaf", none)) cdv A outer s H E) (fun cls d _ H => E cls d H) := takes_of rfl rfl rfl rfl
    have po : PassesOwn (model P w) (cxOf (L2.CX P w) P w K mg base ["thing", "open_so"] "is_leaf" (defScope s_is_leaf) (He.fAd K ("is_leaf", none)) cdv A outer s H E).A (cxOf (L2.CX P w) P w K mg base ["thing", "open_so"] "is_leaf" (defScope s_is_leaf) (He.fAd K ("is_leaf", none)) cdv A outer s H E).env (cxOf (L2.CX P w) P w K mg base ["thing", "open_so"] "is_leaf" (defScope s_is_leaf) (He.fAd K ("is_leaf", none)) cdv A outer s H E).xe := po_of rfl
    exact (sCons (sIf (yVal (xCall h_is_name (hr.mono (by omega)) tk rfl (aCons (xVar (pv 0)) aNil))) (sOne (sRet xBl)) sNil)
      (sOne (sRet (xAnd (xVar (pv 1)) (xAnd (xCallB cIsi rfl T.n_isinstance (by decide +kernel) (aCons (xVar (pv 0)) (aCons (xTy rfl T.n_tuple (by decide +kernel)) aNil))) (xAnd (xCmpD (oEq (hu64 hr)) (xCallB (cLen rfl) rfl T.n_len (by decide +kernel) (aCons (xVar (pv 0)) aNil)) xInt) (xAnd (xCmpD (oEq (hu64 hr)) (xIx (hu65 hr) (xVar (pv 0)) xInt) (xGStr T.c_VAR (okS_by (by decide +kernel)))) (xOne (xCall h_is_name (hr.mono (by omega)) tk rfl (aCons (xIx (hu65 hr) (xVar (pv 0)) xInt) aNil)))))))))))
theorem has_measure (T : Top P w K mg) : ∀ n : Nat, Has P w K mg base (He.ga K) "measure" (3 + 1 * n) (m_measure n)
  | 0 => by
    obtain ⟨fd, D⟩ := T.d_measure
    exact has_false (ps := ["thing", "open_so", "room"]) D T.g_measure (D.bindsN fun _ _ _ _ _ _ us hl => match us, hl with | [_, _, _], _ => rfl)
  | n + 1 => by
    obtain ⟨fd, D⟩ := T.d_measure
    have h_measure := has_measure T n
    have h_is_leaf := has_is_leaf (P := P) (base := base) T
    exact Has.mono (has_of (k := 3 + 1 * n) D T.g_measure sc_measure rfl rfl (D.bindsN fun _ _ _ _ _ _ us hl => match us, hl with | [_, _, _], _ => rfl)
    (fun cdv A outer s H E b l O hr => by
    have tk : Takes (cxOf (L2.CX P w) P w K mg base ["thing", "open_so", "room", "rows", "part", "row"] "measure" (defScope s_measure) (He.fAd K ("measure", none)) cdv A outer s H E) (fun cls d _ H => E cls d H) := takes_of rfl rfl rfl rfl
    have po : PassesOwn (model P w) (cxOf (L2.CX P w) P w K mg base ["thing", "open_so", "room", "rows", "part", "row"] "measure" (defScope s_measure) (He.fAd K ("measure", none)) cdv A outer s H E).A (cxOf (L2.CX P w) P w K mg base ["thing", "open_so", "room", "rows", "part", "row"] "measure" (defScope s_measure) (He.fAd K ("measure", none)) cdv A outer s H E).env (cxOf (L2.CX P w) P w K mg base ["thing", "open_so", "room", "rows", "part", "row"] "measure" (defScope s_measure) (He.fAd K ("measure", none)) cdv A outer s H E).xe := po_of rfl
    exact (sCons (sIf (yVal (xCall h_is_leaf (hr.mono (by omega)) tk rfl (aCons (xVar (pv 0)) (aCons (xVar (pv 1)) aNil)))) (sOne (sRet (xTup (aCons xInt (aCons xInt aNil))))) sNil)
      (sCons (sIf (yW (wOr (yCmpD (oEq (hu64 hr)) (xVar (pv 2)) xInt) (wOr (yNot (yVal (xCallB cIsi rfl T.n_isinstance (by decide +kernel) (aCons (xVar (pv 0)) (aCons (xTy rfl T.n_tuple (by decide +kernel)) aNil))))) (wOr (yCmpD (oEq (hu64 hr)) (xCallB (cLen rfl) rfl T.n_len (by decide +kernel) (aCons (xVar (pv 0)) aNil)) xInt) (wOr1 (yNot (yVal (xCallB cIsi rfl T.n_isinstance (by decide +kernel) (aCons (xIx (hu65 hr) (xVar (pv 0)) xInt) (aCons (xTy rfl T.n_str (by decide +kernel)) aNil)))))))))) (sOne (sRet xNon)) sNil)
      (sCons (sIf (yW (wOr (yNotInTab (T.b_LENGTHS rfl rfl) (xIx (hu65 hr) (xVar (pv 0)) xInt) (pGRef T.g_LENGTHS)) (wOr1 (yCmpD (oNe (hu64 hr)) (xCallB (cLen rfl) rfl T.n_len (by decide +kernel) (aCons (xVar (pv 0)) aNil)) (xIxTab (T.b_LENGTHS rfl rfl) (pGRef T.g_LENGTHS) (xIx (hu65 hr) (xVar (pv 0)) xInt)))))) (sOne (sRet xNon)) sNil)
      (sCons (sIf (yW (wAnd (yCmpD (oIn (hu65 hr) rfl) (xIx (hu65 hr) (xVar (pv 0)) xInt) (xGTup T.g_NAMED T.u_NAMED (by decide +kernel))) (wAnd1 (yNot (yVal (xCall h_is_leaf (hr.mono (by omega)) tk rfl (aCons (xIx (hu65 hr) (xVar (pv 0)) xInt) (aCons (xVar (pv 1)) aNil)))))))) (sOne (sRet xNon)) sNil)
      (sCons (sLcSet (i := 3) rfl sc_measure.nd rfl rfl (sw_true rfl rfl rfl (by decide +kernel)) (blkOk_by (own := [("part", 4)]) (by kernel_rfl)) (iSeq (xSl (xVar (pv 0)) (oSome xInt) oNone)) (fun _ _ _ _ _ _ => (gName1 (pg_name (i := 4) sc_measure.nd rfl (by first | exact Or.inl rfl | exact Or.inr rfl)) (by decide))) (fun _ _ _ _ _ _ => tYesD) (fun _ _ _ _ _ _ => (xCall h_measure (hr.mono (by omega)) takes0 rfl (aCons (xVar (pv 4)) (aCons (xVar (pv 1)) (aCons (xOpD oSub (xVar (pv 2)) xInt) aNil))))))
      (sCons (sIf (yCmpD (oIn (hu65 hr) rfl) xNon (xVar (pv 3))) (sOne (sRet xNon)) sNil)
      (sOne (sRet (xTup (aCons (xCallB (cSum rfl) rfl T.n_sum (by decide +kernel) (aCons (xNew (nLc rfl sc_measure.nd (blkOk_by (own := [("row", 5)]) (by kernel_rfl)) (iSeq (xVar (pv 3))) (fun _ _ _ _ _ _ => (gName1 (pg_name (i := 5) sc_measure.nd rfl (by first | exact Or.inl rfl | exact Or.inr rfl)) (by decide))) (fun _ _ _ _ _ _ => tYesD) (fun _ _ _ _ _ _ => (xIx (hu65 hr) (xVar (pv 5)) xInt)))) aNil)) (aCons (xOpD oAdd xInt (xCallB (cMax rfl) rfl T.n_max (by decide +kernel) (aCons (xNew (nLc rfl sc_measure.nd (blkOk_by (own := [("row", 5)]) (by kernel_rfl)) (iSeq (xVar (pv 3))) (fun _ _ _ _ _ _ => (gName1 (pg_name (i := 5) sc_measure.nd rfl (by first | exact Or.inl rfl | exact Or.inr rfl)) (by decide))) (fun _ _ _ _ _ _ => tYesD) (fun _ _ _ _ _ _ => (xIx (hu65 hr) (xVar (pv 5)) xInt)))) aNil))) aNil))))))))))))) (by omega)
theorem has_has_form (T : Top P w K mg) : Has P w K mg base (He.ga K) "has_form" 17 m_has_form := by
  obtain ⟨fd, D⟩ := T.d_has_form
  have h_measure := has_measure (P := P) (base := base) T 13
  exact has_of (k := 16) D T.g_has_form sc_has_form rfl rfl (D.bindsN fun _ _ _ _ _ _ us hl => match us, hl with | [_, _], _ => rfl)
    (fun cdv A outer s H E b l O hr => by
    have tk : Takes (cxOf (L2.CX P w) P w K mg base ["thing", "open_so", "found"] "has_form" (defScope s_has_form) (He.fAd K ("has_form", none)) cdv A outer s H E) (fun cls d _ H => E cls d H) := takes_of rfl rfl rfl rfl
    have po : PassesOwn (model P w) (cxOf (L2.CX P w) P w K mg base ["thing", "open_so", "found"] "has_form" (defScope s_has_form) (He.fAd K ("has_form", none)) cdv A outer s H E).A (cxOf (L2.CX P w) P w K mg base ["thing", "open_so", "found"] "has_form" (defScope s_has_form) (He.fAd K ("has_form", none)) cdv A outer s H E).env (cxOf (L2.CX P w) P w K mg base ["thing", "open_so", "found"] "has_form" (defScope s_has_form) (He.fAd K ("has_form", none)) cdv A outer s H E).xe := po_of rfl
    exact (sCons (sSet (i := 2) sc_has_form.nd rfl (by first | exact Or.inl rfl | exact Or.inr rfl) (xCall h_measure (hr.mono (by omega)) tk rfl (aCons (xVar (pv 0)) (aCons (xVar (pv 1)) (aCons (xGInt T.c_MOST_DEPTH) aNil)))))
      (sOne (sRet (xAnd (xCmpD oIsNot (xVar (pv 2)) xNon) (xOne (xCmpD oLe (xIx (hu65 hr) (xVar (pv 2)) xInt) (xGInt T.c_MOST_NAMES))))))))
theorem has_is_term (T : Top P w K mg) : Has P w K mg base (He.ga K) "is_term" 18 m_is_term := by
  obtain ⟨fd, D⟩ := T.d_is_term
  have h_has_form := has_has_form (P := P) (base := base) T
  exact has_of (k := 17) D T.g_is_term sc_is_term rfl rfl (D.bindsN fun _ _ _ _ _ _ us hl => match us, hl with | [_], _ => rfl)
    (fun cdv A outer s H E b l O hr => by
    have tk : Takes (cxOf (L2.CX P w) P w K mg base ["thing"] "is_term" (defScope s_is_term) (He.fAd K ("is_term", none)) cdv A outer s H E) (fun cls d _ H => E cls d H) := takes_of rfl rfl rfl rfl
    have po : PassesOwn (model P w) (cxOf (L2.CX P w) P w K mg base ["thing"] "is_term" (defScope s_is_term) (He.fAd K ("is_term", none)) cdv A outer s H E).A (cxOf (L2.CX P w) P w K mg base ["thing"] "is_term" (defScope s_is_term) (He.fAd K ("is_term", none)) cdv A outer s H E).env (cxOf (L2.CX P w) P w K mg base ["thing"] "is_term" (defScope s_is_term) (He.fAd K ("is_term", none)) cdv A outer s H E).xe := po_of rfl
    exact (sOne (sRet (xCall h_has_form (hr.mono (by omega)) tk rfl (aCons (xVar (pv 0)) (aCons xBl aNil))))))
theorem has_check_term (T : Top P w K mg) : Has P w K mg base (He.ga K) "check_term" 19 m_check_term := by
  obtain ⟨fd, D⟩ := T.d_check_term
  have h_is_term := has_is_term (P := P) (base := base) T
  exact has_of (k := 18) D T.g_check_term sc_check_term rfl rfl (D.bindsN fun _ _ _ _ _ _ us hl => match us, hl with | [_], _ => rfl)
    (fun cdv A outer s H E b l O hr => by
    have tk : Takes (cxOf (L2.CX P w) P w K mg base ["term"] "check_term" (defScope s_check_term) (He.fAd K ("check_term", none)) cdv A outer s H E) (fun cls d _ H => E cls d H) := takes_of rfl rfl rfl rfl
    have po : PassesOwn (model P w) (cxOf (L2.CX P w) P w K mg base ["term"] "check_term" (defScope s_check_term) (He.fAd K ("check_term", none)) cdv A outer s H E).A (cxOf (L2.CX P w) P w K mg base ["term"] "check_term" (defScope s_check_term) (He.fAd K ("check_term", none)) cdv A outer s H E).env (cxOf (L2.CX P w) P w K mg base ["term"] "check_term" (defScope s_check_term) (He.fAd K ("check_term", none)) cdv A outer s H E).xe := po_of rfl
    exact (sOne (sIf (yNot (yVal (xCall h_is_term (hr.mono (by omega)) tk rfl (aCons (xVar (pv 0)) aNil)))) (sOne (sRaise (c := "BadTerm") rfl tk (pmk_sup (k := 0) T.s_BadTerm (hr.mono (by omega)) T.n_super T.m_super (by decide +kernel) rfl T.g_BadTerm (aCons (xVar (pv 0)) aNil)))) sNil)))
theorem has_leaves (T : Top P w K mg) : ∀ n : Nat, Has P w K mg base (He.ga K) "leaves" (1 + 1 * n) (m_leaves n)
  | 0 => by
    obtain ⟨fd, D⟩ := T.d_leaves
    exact has_false (ps := ["term"]) D T.g_leaves (D.bindsN fun _ _ _ _ _ _ us hl => match us, hl with | [_], _ => rfl)
  | n + 1 => by
    obtain ⟨fd, D⟩ := T.d_leaves
    have h_leaves := has_leaves T n
    exact Has.mono (has_of (k := 1 + 1 * n) D T.g_leaves sc_leaves rfl rfl (D.bindsN fun _ _ _ _ _ _ us hl => match us, hl with | [_], _ => rfl)
    (fun cdv A outer s H E b l O hr => by
    have tk : Takes (cxOf (L2.CX P w) P w K mg base ["term", "part", "leaf"] "leaves" (defScope s_leaves) (He.fAd K ("leaves", none)) cdv A outer s H E) (fun cls d _ H => E cls d H) := takes_of rfl rfl rfl rfl
    have po : PassesOwn (model P w) (cxOf (L2.CX P w) P w K mg base ["term", "part", "leaf"] "leaves" (defScope s_leaves) (He.fAd K ("leaves", none)) cdv A outer s H E).A (cxOf (L2.CX P w) P w K mg base ["term", "part", "leaf"] "leaves" (defScope s_leaves) (He.fAd K ("leaves", none)) cdv A outer s H E).env (cxOf (L2.CX P w) P w K mg base ["term", "part", "leaf"] "leaves" (defScope s_leaves) (He.fAd K ("leaves", none)) cdv A outer s H E).xe := po_of rfl
    exact (sCons (sIf (yW (wOr (yVal (xCallB cIsi rfl T.n_isinstance (by decide +kernel) (aCons (xVar (pv 0)) (aCons (xTy rfl T.n_str (by decide +kernel)) aNil)))) (wOr1 (yCmpD (oEq (hu64 hr)) (xIx (hu65 hr) (xVar (pv 0)) xInt) (xGStr T.c_VAR (okS_by (by decide +kernel))))))) (sOne (sRet (xNew (nLst (aCons (xVar (pv 0)) aNil))))) sNil)
      (sOne (sRet (xNew (nLc2 rfl sc_leaves.nd (blkOk_by (own := [("part", 1), ("leaf", 2)]) (by kernel_rfl)) (vs1 := [2]) (by decide) (iSeq (xSl (xVar (pv 0)) (oSome xInt) oNone)) (fun _ _ _ _ _ _ => (gName1 (pg_name (i := 1) sc_leaves.nd rfl (by first | exact Or.inl rfl | exact Or.inr rfl)) (by decide))) (fun _ _ _ _ _ _ => tYesD) (fun _ _ _ _ _ _ => (iSeq (xCall h_leaves (hr.mono (by omega)) takes0 rfl (aCons (xVar (pv 1)) aNil)))) (fun _ _ _ _ _ _ => (gName1 (pg_name (i := 2) sc_leaves.nd rfl (by first | exact Or.inl rfl | exact Or.inr rfl)) (by decide))) (fun _ _ _ _ _ _ => tYesD) (fun _ _ _ _ _ _ => (xVar (pv 2)))))))))) (by omega)
theorem has_names_of (T : Top P w K mg) : Has P w K mg base (He.ga K) "names_of" 20 m_names_of := by
  obtain ⟨fd, D⟩ := T.d_names_of
  have h_check_term := has_check_term (P := P) (base := base) T
  have h_leaves := has_leaves (P := P) (base := base) T 16
  exact has_of (k := 19) D T.g_names_of sc_names_of rfl rfl (D.bindsN fun _ _ _ _ _ _ us hl => match us, hl with | [_], _ => rfl)
    (fun cdv A outer s H E b l O hr => by
    have tk : Takes (cxOf (L2.CX P w) P w K mg base ["term"] "names_of" (defScope s_names_of) (He.fAd K ("names_of", none)) cdv A outer s H E) (fun cls d _ H => E cls d H) := takes_of rfl rfl rfl rfl
    have po : PassesOwn (model P w) (cxOf (L2.CX P w) P w K mg base ["term"] "names_of" (defScope s_names_of) (He.fAd K ("names_of", none)) cdv A outer s H E).A (cxOf (L2.CX P w) P w K mg base ["term"] "names_of" (defScope s_names_of) (He.fAd K ("names_of", none)) cdv A outer s H E).env (cxOf (L2.CX P w) P w K mg base ["term"] "names_of" (defScope s_names_of) (He.fAd K ("names_of", none)) cdv A outer s H E).xe := po_of rfl
    exact (sCons (sDrop (xCall h_check_term (hr.mono (by omega)) tk rfl (aCons (xVar (pv 0)) aNil)))
      (sOne (sRet (xNew (nSortZ rfl rfl T.n_sorted (by decide +kernel) (zSet rfl rfl T.n_set (by decide +kernel) (xCall h_leaves (hr.mono (by omega)) tk rfl (aCons (xVar (pv 0)) aNil)))))))))
theorem has_all_parts (T : Top P w K mg) : ∀ n : Nat, Has P w K mg base (He.ga K) "all_parts" (1 + 1 * n) (m_all_parts n)
  | 0 => by
    obtain ⟨fd, D⟩ := T.d_all_parts
    exact has_false (ps := ["term"]) D T.g_all_parts (D.bindsN fun _ _ _ _ _ _ us hl => match us, hl with | [_], _ => rfl)
  | n + 1 => by
    obtain ⟨fd, D⟩ := T.d_all_parts
    have h_all_parts := has_all_parts T n
    exact Has.mono (has_of (k := 1 + 1 * n) D T.g_all_parts sc_all_parts rfl rfl (D.bindsN fun _ _ _ _ _ _ us hl => match us, hl with | [_], _ => rfl)
    (fun cdv A outer s H E b l O hr => by
    have tk : Takes (cxOf (L2.CX P w) P w K mg base ["term", "part", "inner"] "all_parts" (defScope s_all_parts) (He.fAd K ("all_parts", none)) cdv A outer s H E) (fun cls d _ H => E cls d H) := takes_of rfl rfl rfl rfl
    have po : PassesOwn (model P w) (cxOf (L2.CX P w) P w K mg base ["term", "part", "inner"] "all_parts" (defScope s_all_parts) (He.fAd K ("all_parts", none)) cdv A outer s H E).A (cxOf (L2.CX P w) P w K mg base ["term", "part", "inner"] "all_parts" (defScope s_all_parts) (He.fAd K ("all_parts", none)) cdv A outer s H E).env (cxOf (L2.CX P w) P w K mg base ["term", "part", "inner"] "all_parts" (defScope s_all_parts) (He.fAd K ("all_parts", none)) cdv A outer s H E).xe := po_of rfl
    exact (sCons (sIf (yVal (xCallB cIsi rfl T.n_isinstance (by decide +kernel) (aCons (xVar (pv 0)) (aCons (xTy rfl T.n_str (by decide +kernel)) aNil)))) (sOne (sRet (xNew (nLst (aCons (xVar (pv 0)) aNil))))) sNil)
      (sOne (sRet (xOpD oAdd (xNew (nLst (aCons (xVar (pv 0)) aNil))) (xNew (nLc2 rfl sc_all_parts.nd (blkOk_by (own := [("part", 1), ("inner", 2)]) (by kernel_rfl)) (vs1 := [2]) (by decide) (iSeq (xSl (xVar (pv 0)) (oSome xInt) oNone)) (fun _ _ _ _ _ _ => (gName1 (pg_name (i := 1) sc_all_parts.nd rfl (by first | exact Or.inl rfl | exact Or.inr rfl)) (by decide))) (fun _ _ _ _ _ _ => tYesD) (fun _ _ _ _ _ _ => (iSeq (xCall h_all_parts (hr.mono (by omega)) takes0 rfl (aCons (xVar (pv 1)) aNil)))) (fun _ _ _ _ _ _ => (gName1 (pg_name (i := 2) sc_all_parts.nd rfl (by first | exact Or.inl rfl | exact Or.inr rfl)) (by decide))) (fun _ _ _ _ _ _ => tYesD) (fun _ _ _ _ _ _ => (xVar (pv 2))))))))))) (by omega)
theorem has_parts_of (T : Top P w K mg) : Has P w K mg base (He.ga K) "parts_of" 20 m_parts_of := by
  obtain ⟨fd, D⟩ := T.d_parts_of
  have h_check_term := has_check_term (P := P) (base := base) T
  have h_all_parts := has_all_parts (P := P) (base := base) T 16
  exact has_of (k := 19) D T.g_parts_of sc_parts_of rfl rfl (D.bindsN fun _ _ _ _ _ _ us hl => match us, hl with | [_], _ => rfl)
    (fun cdv A outer s H E b l O hr => by
    have tk : Takes (cxOf (L2.CX P w) P w K mg base ["term", "part"] "parts_of" (defScope s_parts_of) (He.fAd K ("parts_of", none)) cdv A outer s H E) (fun cls d _ H => E cls d H) := takes_of rfl rfl rfl rfl
    have po : PassesOwn (model P w) (cxOf (L2.CX P w) P w K mg base ["term", "part"] "parts_of" (defScope s_parts_of) (He.fAd K ("parts_of", none)) cdv A outer s H E).A (cxOf (L2.CX P w) P w K mg base ["term", "part"] "parts_of" (defScope s_parts_of) (He.fAd K ("parts_of", none)) cdv A outer s H E).env (cxOf (L2.CX P w) P w K mg base ["term", "part"] "parts_of" (defScope s_parts_of) (He.fAd K ("parts_of", none)) cdv A outer s H E).xe := po_of rfl
    exact (sCons (sDrop (xCall h_check_term (hr.mono (by omega)) tk rfl (aCons (xVar (pv 0)) aNil)))
      (sOne (sRet (xNew (nCallTy (cList rfl) rfl T.n_list (by decide +kernel) (aCons (xNew (nDc (hu65 hr) rfl sc_parts_of.nd (blkOk_by (own := [("part", 1)]) (by kernel_rfl)) (iSeq (xCall h_all_parts (hr.mono (by omega)) tk rfl (aCons (xVar (pv 0)) aNil))) (fun _ _ _ _ _ _ => (gName1 (pg_name (i := 1) sc_parts_of.nd rfl (by first | exact Or.inl rfl | exact Or.inr rfl)) (by decide))) (fun _ _ _ _ _ _ => tYesD) (fun _ _ _ _ _ _ => (xVar (pv 1))) (fun _ _ _ _ _ _ => xBl))) aNil)))))))
theorem has_size_of (T : Top P w K mg) : Has P w K mg base (He.ga K) "size_of" 20 m_size_of := by
  obtain ⟨fd, D⟩ := T.d_size_of
  have h_check_term := has_check_term (P := P) (base := base) T
  have h_leaves := has_leaves (P := P) (base := base) T 16
  exact has_of (k := 19) D T.g_size_of sc_size_of rfl rfl (D.bindsN fun _ _ _ _ _ _ us hl => match us, hl with | [_], _ => rfl)
    (fun cdv A outer s H E b l O hr => by
    have tk : Takes (cxOf (L2.CX P w) P w K mg base ["term"] "size_of" (defScope s_size_of) (He.fAd K ("size_of", none)) cdv A outer s H E) (fun cls d _ H => E cls d H) := takes_of rfl rfl rfl rfl
    have po : PassesOwn (model P w) (cxOf (L2.CX P w) P w K mg base ["term"] "size_of" (defScope s_size_of) (He.fAd K ("size_of", none)) cdv A outer s H E).A (cxOf (L2.CX P w) P w K mg base ["term"] "size_of" (defScope s_size_of) (He.fAd K ("size_of", none)) cdv A outer s H E).env (cxOf (L2.CX P w) P w K mg base ["term"] "size_of" (defScope s_size_of) (He.fAd K ("size_of", none)) cdv A outer s H E).xe := po_of rfl
    exact (sCons (sDrop (xCall h_check_term (hr.mono (by omega)) tk rfl (aCons (xVar (pv 0)) aNil)))
      (sOne (sRet (xCallB (cLen rfl) rfl T.n_len (by decide +kernel) (aCons (xCall h_leaves (hr.mono (by omega)) tk rfl (aCons (xVar (pv 0)) aNil)) aNil))))))
theorem has_depth_of (T : Top P w K mg) : Has P w K mg base (He.ga K) "depth_of" 20 m_depth_of := by
  obtain ⟨fd, D⟩ := T.d_depth_of
  have h_check_term := has_check_term (P := P) (base := base) T
  have h_measure := has_measure (P := P) (base := base) T 13
  exact has_of (k := 19) D T.g_depth_of sc_depth_of rfl rfl (D.bindsN fun _ _ _ _ _ _ us hl => match us, hl with | [_], _ => rfl)
    (fun cdv A outer s H E b l O hr => by
    have tk : Takes (cxOf (L2.CX P w) P w K mg base ["term"] "depth_of" (defScope s_depth_of) (He.fAd K ("depth_of", none)) cdv A outer s H E) (fun cls d _ H => E cls d H) := takes_of rfl rfl rfl rfl
    have po : PassesOwn (model P w) (cxOf (L2.CX P w) P w K mg base ["term"] "depth_of" (defScope s_depth_of) (He.fAd K ("depth_of", none)) cdv A outer s H E).A (cxOf (L2.CX P w) P w K mg base ["term"] "depth_of" (defScope s_depth_of) (He.fAd K ("depth_of", none)) cdv A outer s H E).env (cxOf (L2.CX P w) P w K mg base ["term"] "depth_of" (defScope s_depth_of) (He.fAd K ("depth_of", none)) cdv A outer s H E).xe := po_of rfl
    exact (sCons (sDrop (xCall h_check_term (hr.mono (by omega)) tk rfl (aCons (xVar (pv 0)) aNil)))
      (sOne (sRet (xIx (hu65 hr) (xCall h_measure (hr.mono (by omega)) tk rfl (aCons (xVar (pv 0)) (aCons xBl (aCons (xGInt T.c_MOST_DEPTH) aNil)))) xInt)))))
theorem has_replaced (T : Top P w K mg) : ∀ n : Nat, Has P w K mg base (He.ga K) "replaced" (1 + 1 * n) (m_replaced n)
  | 0 => by
    obtain ⟨fd, D⟩ := T.d_replaced
    exact has_false (ps := ["term", "names"]) D T.g_replaced (D.bindsN fun _ _ _ _ _ _ us hl => match us, hl with | [_, _], _ => rfl)
  | n + 1 => by
    obtain ⟨fd, D⟩ := T.d_replaced
    have h_replaced := has_replaced T n
    exact Has.mono (has_of (k := 1 + 1 * n) D T.g_replaced sc_replaced rfl rfl (D.bindsN fun _ _ _ _ _ _ us hl => match us, hl with | [_, _], _ => rfl)
    (fun cdv A outer s H E b l O hr => by
    have tk : Takes (cxOf (L2.CX P w) P w K mg base ["term", "names", "part"] "replaced" (defScope s_replaced) (He.fAd K ("replaced", none)) cdv A outer s H E) (fun cls d _ H => E cls d H) := takes_of rfl rfl rfl rfl
    have po : PassesOwn (model P w) (cxOf (L2.CX P w) P w K mg base ["term", "names", "part"] "replaced" (defScope s_replaced) (He.fAd K ("replaced", none)) cdv A outer s H E).A (cxOf (L2.CX P w) P w K mg base ["term", "names", "part"] "replaced" (defScope s_replaced) (He.fAd K ("replaced", none)) cdv A outer s H E).env (cxOf (L2.CX P w) P w K mg base ["term", "names", "part"] "replaced" (defScope s_replaced) (He.fAd K ("replaced", none)) cdv A outer s H E).xe := po_of rfl
    exact (sCons (sIf (yVal (xCallB cIsi rfl T.n_isinstance (by decide +kernel) (aCons (xVar (pv 0)) (aCons (xTy rfl T.n_str (by decide +kernel)) aNil)))) (sOne (sRet (xGet2 (hu65 hr) (xVar (pv 1)) (xVar (pv 0)) (xVar (pv 0))))) sNil)
      (sOne (sRet (xOpD oAdd (xTup (aCons (xIx (hu65 hr) (xVar (pv 0)) xInt) aNil)) (xCallTy cTuple rfl T.n_tuple (by decide +kernel) (aCons (xNew (nLc rfl sc_replaced.nd (blkOk_by (own := [("part", 2)]) (by kernel_rfl)) (iSeq (xSl (xVar (pv 0)) (oSome xInt) oNone)) (fun _ _ _ _ _ _ => (gName1 (pg_name (i := 2) sc_replaced.nd rfl (by first | exact Or.inl rfl | exact Or.inr rfl)) (by decide))) (fun _ _ _ _ _ _ => tYesD) (fun _ _ _ _ _ _ => (xCall h_replaced (hr.mono (by omega)) takes0 rfl (aCons (xVar (pv 2)) (aCons (xVar (pv 1)) aNil)))))) aNil)))))))) (by omega)
theorem has_renamed (T : Top P w K mg) : Has P w K mg base (He.ga K) "renamed" 20 m_renamed := by
  obtain ⟨fd, D⟩ := T.d_renamed
  have h_check_term := has_check_term (P := P) (base := base) T
  have h_is_name_dict := has_is_name_dict (P := P) (base := base) T
  have h_replaced := has_replaced (P := P) (base := base) T 16
  exact has_of (k := 19) D T.g_renamed sc_renamed rfl rfl (D.bindsN fun _ _ _ _ _ _ us hl => match us, hl with | [_, _], _ => rfl)
    (fun cdv A outer s H E b l O hr => by
    have tk : Takes (cxOf (L2.CX P w) P w K mg base ["term", "names"] "renamed" (defScope s_renamed) (He.fAd K ("renamed", none)) cdv A outer s H E) (fun cls d _ H => E cls d H) := takes_of rfl rfl rfl rfl
    have po : PassesOwn (model P w) (cxOf (L2.CX P w) P w K mg base ["term", "names"] "renamed" (defScope s_renamed) (He.fAd K ("renamed", none)) cdv A outer s H E).A (cxOf (L2.CX P w) P w K mg base ["term", "names"] "renamed" (defScope s_renamed) (He.fAd K ("renamed", none)) cdv A outer s H E).env (cxOf (L2.CX P w) P w K mg base ["term", "names"] "renamed" (defScope s_renamed) (He.fAd K ("renamed", none)) cdv A outer s H E).xe := po_of rfl
    exact (sCons (sDrop (xCall h_check_term (hr.mono (by omega)) tk rfl (aCons (xVar (pv 0)) aNil)))
      (sCons (sIf (yNot (yVal (xCall h_is_name_dict (hr.mono (by omega)) tk rfl (aCons (xVar (pv 1)) aNil)))) (sOne (sRaise (c := "BadNames") rfl tk (pmk_sup (k := 0) T.s_BadNames (hr.mono (by omega)) T.n_super T.m_super (by decide +kernel) rfl T.g_BadNames (aCons (xVar (pv 1)) aNil)))) sNil)
      (sOne (sRet (xCall h_replaced (hr.mono (by omega)) tk rfl (aCons (xVar (pv 0)) (aCons (xVar (pv 1)) aNil))))))))
theorem has_spelled (T : Top P w K mg) : ∀ n : Nat, Has P w K mg base (He.ga K) "spelled" (1 + 1 * n) (m_spelled n)
  | 0 => by
    obtain ⟨fd, D⟩ := T.d_spelled
    exact has_false (ps := ["term"]) D T.g_spelled (D.bindsN fun _ _ _ _ _ _ us hl => match us, hl with | [_], _ => rfl)
  | n + 1 => by
    obtain ⟨fd, D⟩ := T.d_spelled
    have h_spelled := has_spelled T n
    exact Has.mono (has_of (k := 1 + 1 * n) D T.g_spelled sc_spelled rfl rfl (D.bindsN fun _ _ _ _ _ _ us hl => match us, hl with | [_], _ => rfl)
    (fun cdv A outer s H E b l O hr => by
    have tk : Takes (cxOf (L2.CX P w) P w K mg base ["term", "parts", "bare", "part"] "spelled" (defScope s_spelled) (He.fAd K ("spelled", none)) cdv A outer s H E) (fun cls d _ H => E cls d H) := takes_of rfl rfl rfl rfl
    have po : PassesOwn (model P w) (cxOf (L2.CX P w) P w K mg base ["term", "parts", "bare", "part"] "spelled" (defScope s_spelled) (He.fAd K ("spelled", none)) cdv A outer s H E).A (cxOf (L2.CX P w) P w K mg base ["term", "parts", "bare", "part"] "spelled" (defScope s_spelled) (He.fAd K ("spelled", none)) cdv A outer s H E).env (cxOf (L2.CX P w) P w K mg base ["term", "parts", "bare", "part"] "spelled" (defScope s_spelled) (He.fAd K ("spelled", none)) cdv A outer s H E).xe := po_of rfl
    exact (sCons (sIf (yVal (xCallB cIsi rfl T.n_isinstance (by decide +kernel) (aCons (xVar (pv 0)) (aCons (xTy rfl T.n_str (by decide +kernel)) aNil)))) (sOne (sRet (xVar (pv 0)))) sNil)
      (sCons (sIf (yCmpD (oEq (hu64 hr)) (xIx (hu65 hr) (xVar (pv 0)) xInt) (xGStr T.c_VAR (okS_by (by decide +kernel)))) (sOne (sRet (xOpD oAdd (xStr (okS_by (by decide +kernel))) (xIx (hu65 hr) (xVar (pv 0)) xInt)))) sNil)
      (sCons (sLcSet (i := 1) rfl sc_spelled.nd rfl rfl (sw_true rfl rfl rfl (by decide +kernel)) (blkOk_by (own := [("part", 3)]) (by kernel_rfl)) (iSeq (xSl (xVar (pv 0)) (oSome xInt) oNone)) (fun _ _ _ _ _ _ => (gName1 (pg_name (i := 3) sc_spelled.nd rfl (by first | exact Or.inl rfl | exact Or.inr rfl)) (by decide))) (fun _ _ _ _ _ _ => tYesD) (fun _ _ _ _ _ _ => (xCall h_spelled (hr.mono (by omega)) takes0 rfl (aCons (xVar (pv 3)) aNil))))
      (sCons (sIf (yCmpD (oEq (hu64 hr)) (xIx (hu65 hr) (xVar (pv 0)) xInt) (xGStr T.c_PAIR (okS_by (by decide +kernel)))) (sOne (sRet (xOpD oAdd (xOpD oAdd (xOpD oAdd (xOpD oAdd (xStr (okS_by (by decide +kernel))) (xIx (hu65 hr) (xVar (pv 1)) xInt)) (xGStr T.c_AND (okS_by (by decide +kernel)))) (xIx (hu65 hr) (xVar (pv 1)) xInt)) (xStr (okS_by (by decide +kernel)))))) sNil)
      (sCons (sIf (yCmpD (oEq (hu64 hr)) (xIx (hu65 hr) (xVar (pv 0)) xInt) (xGStr T.c_BOX (okS_by (by decide +kernel)))) (sCons (sSet (i := 2) sc_spelled.nd rfl (by first | exact Or.inl rfl | exact Or.inr rfl) (xOr (xCallB cIsi rfl T.n_isinstance (by decide +kernel) (aCons (xIx (hu65 hr) (xVar (pv 0)) xInt) (aCons (xTy rfl T.n_str (by decide +kernel)) aNil))) (xOne (xCmpD (oEq (hu64 hr)) (xIx (hu65 hr) (xIx (hu65 hr) (xVar (pv 0)) xInt) xInt) (xGStr T.c_VAR (okS_by (by decide +kernel)))))))
      (sOne (sRet (xOpD oAdd (xOpD oAdd (xOpD oAdd (xStr (okS_by (by decide +kernel))) (xIx (hu65 hr) (xVar (pv 1)) xInt)) (xStr (okS_by (by decide +kernel)))) (xIf (yVal (xVar (pv 2))) (xIx (hu65 hr) (xVar (pv 1)) xInt) (xOpD oAdd (xOpD oAdd (xStr (okS_by (by decide +kernel))) (xIx (hu65 hr) (xVar (pv 1)) xInt)) (xStr (okS_by (by decide +kernel))))))))) sNil)
      (sCons (sIf (yCmpD (oEq (hu64 hr)) (xIx (hu65 hr) (xVar (pv 0)) xInt) (xGStr T.c_HALF (okS_by (by decide +kernel)))) (sOne (sRet (xOpD oAdd (xStr (okS_by (by decide +kernel))) (xIx (hu65 hr) (xVar (pv 1)) xInt)))) sNil)
      (sCons (sIf (yCmpD (oEq (hu64 hr)) (xIx (hu65 hr) (xVar (pv 0)) xInt) (xGStr T.c_SHUT (okS_by (by decide +kernel)))) (sOne (sRet (xOpD oAdd (xOpD oAdd (xOpD oAdd (xStr (okS_by (by decide +kernel))) (xIx (hu65 hr) (xVar (pv 1)) xInt)) (xStr (okS_by (by decide +kernel)))) (xIx (hu65 hr) (xVar (pv 1)) xInt)))) sNil)
      (sCons (sIf (yCmpD (oEq (hu64 hr)) (xIx (hu65 hr) (xVar (pv 0)) xInt) (xGStr T.c_MARK (okS_by (by decide +kernel)))) (sOne (sRet (xOpD oAdd (xOpD oAdd (xOpD oAdd (xOpD oAdd (xStr (okS_by (by decide +kernel))) (xIx (hu65 hr) (xVar (pv 1)) xInt)) (xStr (okS_by (by decide +kernel)))) (xIx (hu65 hr) (xVar (pv 1)) xInt)) (xStr (okS_by (by decide +kernel)))))) sNil)
      (sOne (sRet (xOpD oAdd (xOpD oAdd (xStr (okS_by (by decide +kernel))) (xIx (hu65 hr) (xVar (pv 1)) xInt)) (xStr (okS_by (by decide +kernel)))))))))))))))) (by omega)
theorem has_worded (T : Top P w K mg) : Has P w K mg base (He.ga K) "worded" 20 m_worded := by
  obtain ⟨fd, D⟩ := T.d_worded
  have h_check_term := has_check_term (P := P) (base := base) T
  have h_spelled := has_spelled (P := P) (base := base) T 16
  exact has_of (k := 19) D T.g_worded sc_worded rfl rfl (D.bindsN fun _ _ _ _ _ _ us hl => match us, hl with | [_], _ => rfl)
    (fun cdv A outer s H E b l O hr => by
    have tk : Takes (cxOf (L2.CX P w) P w K mg base ["term"] "worded" (defScope s_worded) (He.fAd K ("worded", none)) cdv A outer s H E) (fun cls d _ H => E cls d H) := takes_of rfl rfl rfl rfl
    have po : PassesOwn (model P w) (cxOf (L2.CX P w) P w K mg base ["term"] "worded" (defScope s_worded) (He.fAd K ("worded", none)) cdv A outer s H E).A (cxOf (L2.CX P w) P w K mg base ["term"] "worded" (defScope s_worded) (He.fAd K ("worded", none)) cdv A outer s H E).env (cxOf (L2.CX P w) P w K mg base ["term"] "worded" (defScope s_worded) (He.fAd K ("worded", none)) cdv A outer s H E).xe := po_of rfl
    exact (sCons (sDrop (xCall h_check_term (hr.mono (by omega)) tk rfl (aCons (xVar (pv 0)) aNil)))
      (sOne (sRet (xCall h_spelled (hr.mono (by omega)) tk rfl (aCons (xVar (pv 0)) aNil))))))
theorem has_word_end (T : Top P w K mg) : Has P w K mg base (He.ga K) "word_end" 1 m_word_end := by
  obtain ⟨fd, D⟩ := T.d_word_end
  exact has_of (k := 0) D T.g_word_end sc_word_end rfl rfl (D.bindsN fun _ _ _ _ _ _ us hl => match us, hl with | [_, _], _ => rfl)
    (fun cdv A outer s H E b l O hr => by
    have tk : Takes (cxOf (L2.CX P w) P w K mg base ["text", "at"] "word_end" (defScope s_word_end) (He.fAd K ("word_end", none)) cdv A outer s H E) (fun cls d _ H => E cls d H) := takes_of rfl rfl rfl rfl
    have po : PassesOwn (model P w) (cxOf (L2.CX P w) P w K mg base ["text", "at"] "word_end" (defScope s_word_end) (He.fAd K ("word_end", none)) cdv A outer s H E).A (cxOf (L2.CX P w) P w K mg base ["text", "at"] "word_end" (defScope s_word_end) (He.fAd K ("word_end", none)) cdv A outer s H E).env (cxOf (L2.CX P w) P w K mg base ["text", "at"] "word_end" (defScope s_word_end) (He.fAd K ("word_end", none)) cdv A outer s H E).xe := po_of rfl
    exact (sCons (sWhile po (yW (wAnd (yCmpD oLt (xVar (pv 1)) (xCallB (cLen rfl) rfl T.n_len (by decide +kernel) (aCons (xVar (pv 0)) aNil))) (wAnd1 (yCmpD (oIn (hu65 hr) rfl) (xIx (hu65 hr) (xVar (pv 0)) (xVar (pv 1))) (xGStr T.c_SMALL (okS_by (by decide +kernel))))))) (sOne (sAug (i := 1) sc_word_end.nd rfl (by first | exact Or.inl rfl | exact Or.inr rfl) xInt)))
      (sOne (sRet (xVar (pv 1))))))
theorem has_leaf_at (T : Top P w K mg) : Has P w K mg base (He.ga K) "leaf_at" 2 m_leaf_at := by
  obtain ⟨fd, D⟩ := T.d_leaf_at
  have h_word_end := has_word_end (P := P) (base := base) T
  have h_is_name := has_is_name (P := P) (base := base) T
  exact has_of (k := 1) D T.g_leaf_at sc_leaf_at rfl rfl (D.bindsN fun _ _ _ _ _ _ us hl => match us, hl with | [_, _], _ => rfl)
    (fun cdv A outer s H E b l O hr => by
    have tk : Takes (cxOf (L2.CX P w) P w K mg base ["text", "at", "first", "end"] "leaf_at" (defScope s_leaf_at) (He.fAd K ("leaf_at", none)) cdv A outer s H E) (fun cls d _ H => E cls d H) := takes_of rfl rfl rfl rfl
    have po : PassesOwn (model P w) (cxOf (L2.CX P w) P w K mg base ["text", "at", "first", "end"] "leaf_at" (defScope s_leaf_at) (He.fAd K ("leaf_at", none)) cdv A outer s H E).A (cxOf (L2.CX P w) P w K mg base ["text", "at", "first", "end"] "leaf_at" (defScope s_leaf_at) (He.fAd K ("leaf_at", none)) cdv A outer s H E).env (cxOf (L2.CX P w) P w K mg base ["text", "at", "first", "end"] "leaf_at" (defScope s_leaf_at) (He.fAd K ("leaf_at", none)) cdv A outer s H E).xe := po_of rfl
    exact (sCons (sSet (i := 2) sc_leaf_at.nd rfl (by first | exact Or.inl rfl | exact Or.inr rfl) (xOpD oAdd (xVar (pv 1)) (xCallTy cInt rfl T.n_int (by decide +kernel) (aCons (xCmpD (oEq (hu64 hr)) (xSl (xVar (pv 0)) (oSome (xVar (pv 1))) (oSome (xOpD oAdd (xVar (pv 1)) xInt))) (xStr (okS_by (by decide +kernel)))) aNil))))
      (sCons (sSet (i := 3) sc_leaf_at.nd rfl (by first | exact Or.inl rfl | exact Or.inr rfl) (xCall h_word_end (hr.mono (by omega)) tk rfl (aCons (xVar (pv 0)) (aCons (xVar (pv 2)) aNil))))
      (sCons (sIf (yNot (yVal (xCall h_is_name (hr.mono (by omega)) tk rfl (aCons (xSl (xVar (pv 0)) (oSome (xVar (pv 2))) (oSome (xVar (pv 3)))) aNil)))) (sOne (sRet xNon)) sNil)
      (sOne (sRet (xTup (aCons (xIf (yCmpD (oEq (hu64 hr)) (xVar (pv 2)) (xVar (pv 1))) (xSl (xVar (pv 0)) (oSome (xVar (pv 1))) (oSome (xVar (pv 3)))) (xTup (aCons (xGStr T.c_VAR (okS_by (by decide +kernel))) (aCons (xSl (xVar (pv 0)) (oSome (xVar (pv 2))) (oSome (xVar (pv 3)))) aNil)))) (aCons (xVar (pv 3)) aNil)))))))))
theorem has_behind (T : Top P w K mg) : Has P w K mg base (He.ga K) "behind" 1 m_behind := by
  obtain ⟨fd, D⟩ := T.d_behind
  exact has_of (k := 0) D T.g_behind sc_behind rfl rfl (D.bindsN fun _ _ _ _ _ _ us hl => match us, hl with | [_, _, _], _ => rfl)
    (fun cdv A outer s H E b l O hr => by
    have tk : Takes (cxOf (L2.CX P w) P w K mg base ["text", "found", "mark"] "behind" (defScope s_behind) (He.fAd K ("behind", none)) cdv A outer s H E) (fun cls d _ H => E cls d H) := takes_of rfl rfl rfl rfl
    have po : PassesOwn (model P w) (cxOf (L2.CX P w) P w K mg base ["text", "found", "mark"] "behind" (defScope s_behind) (He.fAd K ("behind", none)) cdv A outer s H E).A (cxOf (L2.CX P w) P w K mg base ["text", "found", "mark"] "behind" (defScope s_behind) (He.fAd K ("behind", none)) cdv A outer s H E).env (cxOf (L2.CX P w) P w K mg base ["text", "found", "mark"] "behind" (defScope s_behind) (He.fAd K ("behind", none)) cdv A outer s H E).xe := po_of rfl
    exact (sCons (sIf (yW (wOr (yCmpD oIs (xVar (pv 1)) xNon) (wOr1 (yNot (yVal (xStarts (xVar (pv 0)) (aCons (xVar (pv 2)) (aCons (xIx (hu65 hr) (xVar (pv 1)) xInt) aNil)))))))) (sOne (sRet xNon)) sNil)
      (sOne (sRet (xTup (aCons (xIx (hu65 hr) (xVar (pv 1)) xInt) (aCons (xOpD oAdd (xIx (hu65 hr) (xVar (pv 1)) xInt) (xCallB (cLen rfl) rfl T.n_len (by decide +kernel) (aCons (xVar (pv 2)) aNil))) aNil)))))))
theorem has_round_at (T : Top P w K mg) (tm : DFn) (k : Nat) (hk : 2 ≤ k) (h_term_at : Has P w K mg base (He.ga K) "term_at" k tm) : Has P w K mg base (He.ga K) "round_at" (k + 1) (m_round_at tm) := by
  obtain ⟨fd, D⟩ := T.d_round_at
  have h_behind := has_behind (P := P) (base := base) T
  have h_leaf_at := has_leaf_at (P := P) (base := base) T
  exact has_of (k := k) D T.g_round_at sc_round_at rfl rfl (D.bindsN fun _ _ _ _ _ _ us hl => match us, hl with | [_, _, _], _ => rfl)
    (fun cdv A outer s H E b l O hr => by
    have tk : Takes (cxOf (L2.CX P w) P w K mg base ["text", "at", "room", "first", "second"] "round_at" (defScope s_round_at) (He.fAd K ("round_at", none)) cdv A outer s H E) (fun cls d _ H => E cls d H) := takes_of rfl rfl rfl rfl
    have po : PassesOwn (model P w) (cxOf (L2.CX P w) P w K mg base ["text", "at", "room", "first", "second"] "round_at" (defScope s_round_at) (He.fAd K ("round_at", none)) cdv A outer s H E).A (cxOf (L2.CX P w) P w K mg base ["text", "at", "room", "first", "second"] "round_at" (defScope s_round_at) (He.fAd K ("round_at", none)) cdv A outer s H E).env (cxOf (L2.CX P w) P w K mg base ["text", "at", "room", "first", "second"] "round_at" (defScope s_round_at) (He.fAd K ("round_at", none)) cdv A outer s H E).xe := po_of rfl
    exact (sCons (sSet (i := 3) sc_round_at.nd rfl (by first | exact Or.inl rfl | exact Or.inr rfl) (xCall h_term_at (hr.mono (by omega)) tk rfl (aCons (xVar (pv 0)) (aCons (xOpD oAdd (xVar (pv 1)) xInt) (aCons (xVar (pv 2)) aNil)))))
      (sCons (sIf (yCmpD oIs (xVar (pv 3)) xNon) (sOne (sRet xNon)) sNil)
      (sCons (sIf (yVal (xStarts (xVar (pv 0)) (aCons (xGStr T.c_AND (okS_by (by decide +kernel))) (aCons (xIx (hu65 hr) (xVar (pv 3)) xInt) aNil)))) (sCons (sSet (i := 4) sc_round_at.nd rfl (by first | exact Or.inl rfl | exact Or.inr rfl) (xCall h_behind (hr.mono (by omega)) tk rfl (aCons (xVar (pv 0)) (aCons (xCall h_term_at (hr.mono (by omega)) tk rfl (aCons (xVar (pv 0)) (aCons (xOpD oAdd (xIx (hu65 hr) (xVar (pv 3)) xInt) (xCallB (cLen rfl) rfl T.n_len (by decide +kernel) (aCons (xGStr T.c_AND (okS_by (by decide +kernel))) aNil))) (aCons (xVar (pv 2)) aNil)))) (aCons (xStr (okS_by (by decide +kernel))) aNil)))))
      (sOne (sRet (xIf (yCmpD oIs (xVar (pv 4)) xNon) xNon (xTup (aCons (xTup (aCons (xGStr T.c_PAIR (okS_by (by decide +kernel))) (aCons (xIx (hu65 hr) (xVar (pv 3)) xInt) (aCons (xIx (hu65 hr) (xVar (pv 4)) xInt) aNil)))) (aCons (xIx (hu65 hr) (xVar (pv 4)) xInt) aNil))))))) sNil)
      (sCons (sIf (yNot (yVal (xStarts (xVar (pv 0)) (aCons (xStr (okS_by (by decide +kernel))) (aCons (xIx (hu65 hr) (xVar (pv 3)) xInt) aNil))))) (sOne (sRet xNon)) sNil)
      (sCons (sSet (i := 4) sc_round_at.nd rfl (by first | exact Or.inl rfl | exact Or.inr rfl) (xCall h_behind (hr.mono (by omega)) tk rfl (aCons (xVar (pv 0)) (aCons (xCall h_leaf_at (hr.mono (by omega)) tk rfl (aCons (xVar (pv 0)) (aCons (xOpD oAdd (xIx (hu65 hr) (xVar (pv 3)) xInt) xInt) aNil))) (aCons (xStr (okS_by (by decide +kernel))) aNil)))))
      (sOne (sRet (xIf (yCmpD oIs (xVar (pv 4)) xNon) xNon (xTup (aCons (xTup (aCons (xGStr T.c_MARK (okS_by (by decide +kernel))) (aCons (xIx (hu65 hr) (xVar (pv 4)) xInt) (aCons (xIx (hu65 hr) (xVar (pv 3)) xInt) aNil)))) (aCons (xIx (hu65 hr) (xVar (pv 4)) xInt) aNil))))))))))))
theorem has_box_at (T : Top P w K mg) (tm : DFn) (k : Nat) (hk : 2 ≤ k) (h_term_at : Has P w K mg base (He.ga K) "term_at" k tm) : Has P w K mg base (He.ga K) "box_at" (k + 1) (m_box_at tm) := by
  obtain ⟨fd, D⟩ := T.d_box_at
  have h_behind := has_behind (P := P) (base := base) T
  have h_leaf_at := has_leaf_at (P := P) (base := base) T
  exact has_of (k := k) D T.g_box_at sc_box_at rfl rfl (D.bindsN fun _ _ _ _ _ _ us hl => match us, hl with | [_, _, _], _ => rfl)
    (fun cdv A outer s H E b l O hr => by
    have tk : Takes (cxOf (L2.CX P w) P w K mg base ["text", "at", "room", "first", "second"] "box_at" (defScope s_box_at) (He.fAd K ("box_at", none)) cdv A outer s H E) (fun cls d _ H => E cls d H) := takes_of rfl rfl rfl rfl
    have po : PassesOwn (model P w) (cxOf (L2.CX P w) P w K mg base ["text", "at", "room", "first", "second"] "box_at" (defScope s_box_at) (He.fAd K ("box_at", none)) cdv A outer s H E).A (cxOf (L2.CX P w) P w K mg base ["text", "at", "room", "first", "second"] "box_at" (defScope s_box_at) (He.fAd K ("box_at", none)) cdv A outer s H E).env (cxOf (L2.CX P w) P w K mg base ["text", "at", "room", "first", "second"] "box_at" (defScope s_box_at) (He.fAd K ("box_at", none)) cdv A outer s H E).xe := po_of rfl
    exact (sCons (sSet (i := 3) sc_box_at.nd rfl (by first | exact Or.inl rfl | exact Or.inr rfl) (xCall h_behind (hr.mono (by omega)) tk rfl (aCons (xVar (pv 0)) (aCons (xCall h_term_at (hr.mono (by omega)) tk rfl (aCons (xVar (pv 0)) (aCons (xOpD oAdd (xVar (pv 1)) xInt) (aCons (xVar (pv 2)) aNil)))) (aCons (xStr (okS_by (by decide +kernel))) aNil)))))
      (sCons (sIf (yCmpD oIs (xVar (pv 3)) xNon) (sOne (sRet xNon)) sNil)
      (sCons (sIf (yVal (xStarts (xVar (pv 0)) (aCons (xStr (okS_by (by decide +kernel))) (aCons (xIx (hu65 hr) (xVar (pv 3)) xInt) aNil)))) (sOne (sSet (i := 4) sc_box_at.nd rfl (by first | exact Or.inl rfl | exact Or.inr rfl) (xCall h_behind (hr.mono (by omega)) tk rfl (aCons (xVar (pv 0)) (aCons (xCall h_term_at (hr.mono (by omega)) tk rfl (aCons (xVar (pv 0)) (aCons (xOpD oAdd (xIx (hu65 hr) (xVar (pv 3)) xInt) xInt) (aCons (xVar (pv 2)) aNil)))) (aCons (xStr (okS_by (by decide +kernel))) aNil)))))) (sOne (sSet (i := 4) sc_box_at.nd rfl (by first | exact Or.inl rfl | exact Or.inr rfl) (xCall h_leaf_at (hr.mono (by omega)) tk rfl (aCons (xVar (pv 0)) (aCons (xIx (hu65 hr) (xVar (pv 3)) xInt) aNil))))))
      (sOne (sRet (xIf (yCmpD oIs (xVar (pv 4)) xNon) xNon (xTup (aCons (xTup (aCons (xGStr T.c_BOX (okS_by (by decide +kernel))) (aCons (xIx (hu65 hr) (xVar (pv 4)) xInt) (aCons (xIx (hu65 hr) (xVar (pv 3)) xInt) aNil)))) (aCons (xIx (hu65 hr) (xVar (pv 4)) xInt) aNil))))))))))
theorem has_shut_at (T : Top P w K mg) (tm : DFn) (k : Nat) (hk : 2 ≤ k) (h_term_at : Has P w K mg base (He.ga K) "term_at" k tm) : Has P w K mg base (He.ga K) "shut_at" (k + 1) (m_shut_at tm) := by
  obtain ⟨fd, D⟩ := T.d_shut_at
  have h_behind := has_behind (P := P) (base := base) T
  have h_leaf_at := has_leaf_at (P := P) (base := base) T
  exact has_of (k := k) D T.g_shut_at sc_shut_at rfl rfl (D.bindsN fun _ _ _ _ _ _ us hl => match us, hl with | [_, _, _], _ => rfl)
    (fun cdv A outer s H E b l O hr => by
    have tk : Takes (cxOf (L2.CX P w) P w K mg base ["text", "at", "room", "first", "second"] "shut_at" (defScope s_shut_at) (He.fAd K ("shut_at", none)) cdv A outer s H E) (fun cls d _ H => E cls d H) := takes_of rfl rfl rfl rfl
    have po : PassesOwn (model P w) (cxOf (L2.CX P w) P w K mg base ["text", "at", "room", "first", "second"] "shut_at" (defScope s_shut_at) (He.fAd K ("shut_at", none)) cdv A outer s H E).A (cxOf (L2.CX P w) P w K mg base ["text", "at", "room", "first", "second"] "shut_at" (defScope s_shut_at) (He.fAd K ("shut_at", none)) cdv A outer s H E).env (cxOf (L2.CX P w) P w K mg base ["text", "at", "room", "first", "second"] "shut_at" (defScope s_shut_at) (He.fAd K ("shut_at", none)) cdv A outer s H E).xe := po_of rfl
    exact (sCons (sSet (i := 3) sc_shut_at.nd rfl (by first | exact Or.inl rfl | exact Or.inr rfl) (xCall h_behind (hr.mono (by omega)) tk rfl (aCons (xVar (pv 0)) (aCons (xCall h_term_at (hr.mono (by omega)) tk rfl (aCons (xVar (pv 0)) (aCons (xOpD oAdd (xVar (pv 1)) xInt) (aCons (xVar (pv 2)) aNil)))) (aCons (xStr (okS_by (by decide +kernel))) aNil)))))
      (sCons (sIf (yCmpD oIs (xVar (pv 3)) xNon) (sOne (sRet xNon)) sNil)
      (sCons (sSet (i := 4) sc_shut_at.nd rfl (by first | exact Or.inl rfl | exact Or.inr rfl) (xCall h_leaf_at (hr.mono (by omega)) tk rfl (aCons (xVar (pv 0)) (aCons (xIx (hu65 hr) (xVar (pv 3)) xInt) aNil))))
      (sOne (sRet (xIf (yCmpD oIs (xVar (pv 4)) xNon) xNon (xTup (aCons (xTup (aCons (xGStr T.c_SHUT (okS_by (by decide +kernel))) (aCons (xIx (hu65 hr) (xVar (pv 4)) xInt) (aCons (xIx (hu65 hr) (xVar (pv 3)) xInt) aNil)))) (aCons (xIx (hu65 hr) (xVar (pv 4)) xInt) aNil))))))))))
theorem has_word_at (T : Top P w K mg) (tm : DFn) (k : Nat) (hk : 2 ≤ k) (h_term_at : Has P w K mg base (He.ga K) "term_at" k tm) : Has P w K mg base (He.ga K) "word_at" (k + 1) (m_word_at tm) := by
  obtain ⟨fd, D⟩ := T.d_word_at
  have h_word_end := has_word_end (P := P) (base := base) T
  have h_behind := has_behind (P := P) (base := base) T
  have h_leaf_at := has_leaf_at (P := P) (base := base) T
  exact has_of (k := k) D T.g_word_at sc_word_at rfl rfl (D.bindsN fun _ _ _ _ _ _ us hl => match us, hl with | [_, _, _], _ => rfl)
    (fun cdv A outer s H E b l O hr => by
    have tk : Takes (cxOf (L2.CX P w) P w K mg base ["text", "at", "room", "end", "found"] "word_at" (defScope s_word_at) (He.fAd K ("word_at", none)) cdv A outer s H E) (fun cls d _ H => E cls d H) := takes_of rfl rfl rfl rfl
    have po : PassesOwn (model P w) (cxOf (L2.CX P w) P w K mg base ["text", "at", "room", "end", "found"] "word_at" (defScope s_word_at) (He.fAd K ("word_at", none)) cdv A outer s H E).A (cxOf (L2.CX P w) P w K mg base ["text", "at", "room", "end", "found"] "word_at" (defScope s_word_at) (He.fAd K ("word_at", none)) cdv A outer s H E).env (cxOf (L2.CX P w) P w K mg base ["text", "at", "room", "end", "found"] "word_at" (defScope s_word_at) (He.fAd K ("word_at", none)) cdv A outer s H E).xe := po_of rfl
    exact (sCons (sSet (i := 3) sc_word_at.nd rfl (by first | exact Or.inl rfl | exact Or.inr rfl) (xCall h_word_end (hr.mono (by omega)) tk rfl (aCons (xVar (pv 0)) (aCons (xVar (pv 1)) aNil))))
      (sCons (sIf (yW (wAnd (yCmpD (oEq (hu64 hr)) (xSl (xVar (pv 0)) (oSome (xVar (pv 1))) (oSome (xVar (pv 3)))) (xGStr T.c_MIX (okS_by (by decide +kernel)))) (wAnd1 (yVal (xStarts (xVar (pv 0)) (aCons (xStr (okS_by (by decide +kernel))) (aCons (xVar (pv 3)) aNil))))))) (sCons (sSet (i := 4) sc_word_at.nd rfl (by first | exact Or.inl rfl | exact Or.inr rfl) (xCall h_behind (hr.mono (by omega)) tk rfl (aCons (xVar (pv 0)) (aCons (xCall h_term_at (hr.mono (by omega)) tk rfl (aCons (xVar (pv 0)) (aCons (xOpD oAdd (xVar (pv 3)) xInt) (aCons (xVar (pv 2)) aNil)))) (aCons (xStr (okS_by (by decide +kernel))) aNil)))))
      (sOne (sRet (xIf (yCmpD oIs (xVar (pv 4)) xNon) xNon (xTup (aCons (xTup (aCons (xGStr T.c_MIX (okS_by (by decide +kernel))) (aCons (xIx (hu65 hr) (xVar (pv 4)) xInt) aNil))) (aCons (xIx (hu65 hr) (xVar (pv 4)) xInt) aNil))))))) sNil)
      (sCons (sIf (yW (wAnd (yCmpD (oEq (hu64 hr)) (xSl (xVar (pv 0)) (oSome (xVar (pv 1))) (oSome (xVar (pv 3)))) (xGStr T.c_HALF (okS_by (by decide +kernel)))) (wAnd (yVal (xStarts (xVar (pv 0)) (aCons (xStr (okS_by (by decide +kernel))) (aCons (xVar (pv 3)) aNil)))) (wAnd1 (yNot (yVal (xStarts (xVar (pv 0)) (aCons (xGStr T.c_AND (okS_by (by decide +kernel))) (aCons (xVar (pv 3)) aNil))))))))) (sCons (sSet (i := 4) sc_word_at.nd rfl (by first | exact Or.inl rfl | exact Or.inr rfl) (xCall h_leaf_at (hr.mono (by omega)) tk rfl (aCons (xVar (pv 0)) (aCons (xOpD oAdd (xVar (pv 3)) xInt) aNil))))
      (sOne (sRet (xIf (yCmpD oIs (xVar (pv 4)) xNon) xNon (xTup (aCons (xTup (aCons (xGStr T.c_HALF (okS_by (by decide +kernel))) (aCons (xIx (hu65 hr) (xVar (pv 4)) xInt) aNil))) (aCons (xIx (hu65 hr) (xVar (pv 4)) xInt) aNil))))))) sNil)
      (sOne (sRet (xCall h_leaf_at (hr.mono (by omega)) tk rfl (aCons (xVar (pv 0)) (aCons (xVar (pv 1)) aNil)))))))))
theorem has_term_at (T : Top P w K mg) : ∀ n : Nat, Has P w K mg base (He.ga K) "term_at" (2 + 2 * n) (m_term_at n)
  | 0 => by
    obtain ⟨fd, D⟩ := T.d_term_at
    exact has_false (ps := ["text", "at", "room"]) D T.g_term_at (D.bindsN fun _ _ _ _ _ _ us hl => match us, hl with | [_, _, _], _ => rfl)
  | n + 1 => by
    obtain ⟨fd, D⟩ := T.d_term_at
    have h_round_at := has_round_at (P := P) (base := base) T (m_term_at n) _ (by omega) (has_term_at T n)
    have h_box_at := has_box_at (P := P) (base := base) T (m_term_at n) _ (by omega) (has_term_at T n)
    have h_shut_at := has_shut_at (P := P) (base := base) T (m_term_at n) _ (by omega) (has_term_at T n)
    have h_word_at := has_word_at (P := P) (base := base) T (m_term_at n) _ (by omega) (has_term_at T n)
    exact Has.mono (has_of (k := 2 + 2 * n + 1) D T.g_term_at sc_term_at rfl rfl (D.bindsN fun _ _ _ _ _ _ us hl => match us, hl with | [_, _, _], _ => rfl)
    (fun cdv A outer s H E b l O hr => by
    have tk : Takes (cxOf (L2.CX P w) P w K mg base ["text", "at", "room"] "term_at" (defScope s_term_at) (He.fAd K ("term_at", none)) cdv A outer s H E) (fun cls d _ H => E cls d H) := takes_of rfl rfl rfl rfl
    have po : PassesOwn (model P w) (cxOf (L2.CX P w) P w K mg base ["text", "at", "room"] "term_at" (defScope s_term_at) (He.fAd K ("term_at", none)) cdv A outer s H E).A (cxOf (L2.CX P w) P w K mg base ["text", "at", "room"] "term_at" (defScope s_term_at) (He.fAd K ("term_at", none)) cdv A outer s H E).env (cxOf (L2.CX P w) P w K mg base ["text", "at", "room"] "term_at" (defScope s_term_at) (He.fAd K ("term_at", none)) cdv A outer s H E).xe := po_of rfl
    exact (sCons (sIf (yCmpD (oEq (hu64 hr)) (xVar (pv 2)) xInt) (sOne (sRet xNon)) sNil)
      (sCons (sIf (yVal (xStarts (xVar (pv 0)) (aCons (xStr (okS_by (by decide +kernel))) (aCons (xVar (pv 1)) aNil)))) (sOne (sRet (xCall h_round_at (hr.mono (by omega)) tk rfl (aCons (xVar (pv 0)) (aCons (xVar (pv 1)) (aCons (xOpD oSub (xVar (pv 2)) xInt) aNil)))))) sNil)
      (sCons (sIf (yVal (xStarts (xVar (pv 0)) (aCons (xStr (okS_by (by decide +kernel))) (aCons (xVar (pv 1)) aNil)))) (sOne (sRet (xCall h_box_at (hr.mono (by omega)) tk rfl (aCons (xVar (pv 0)) (aCons (xVar (pv 1)) (aCons (xOpD oSub (xVar (pv 2)) xInt) aNil)))))) sNil)
      (sCons (sIf (yVal (xStarts (xVar (pv 0)) (aCons (xStr (okS_by (by decide +kernel))) (aCons (xVar (pv 1)) aNil)))) (sOne (sRet (xCall h_shut_at (hr.mono (by omega)) tk rfl (aCons (xVar (pv 0)) (aCons (xVar (pv 1)) (aCons (xOpD oSub (xVar (pv 2)) xInt) aNil)))))) sNil)
      (sOne (sRet (xCall h_word_at (hr.mono (by omega)) tk rfl (aCons (xVar (pv 0)) (aCons (xVar (pv 1)) (aCons (xOpD oSub (xVar (pv 2)) xInt) aNil)))))))))))) (by omega)
theorem has_read_any (T : Top P w K mg) : Has P w K mg base (He.ga K) "read_any" 29 m_read_any := by
  obtain ⟨fd, D⟩ := T.d_read_any
  have h_term_at := has_term_at (P := P) (base := base) T 13
  have h_has_form := has_has_form (P := P) (base := base) T
  have h_spelled := has_spelled (P := P) (base := base) T 16
  exact has_of (k := 28) D T.g_read_any sc_read_any rfl rfl (D.bindsN fun _ _ _ _ _ _ us hl => match us, hl with | [_, _], _ => rfl)
    (fun cdv A outer s H E b l O hr => by
    have tk : Takes (cxOf (L2.CX P w) P w K mg base ["text", "open_so", "found"] "read_any" (defScope s_read_any) (He.fAd K ("read_any", none)) cdv A outer s H E) (fun cls d _ H => E cls d H) := takes_of rfl rfl rfl rfl
    have po : PassesOwn (model P w) (cxOf (L2.CX P w) P w K mg base ["text", "open_so", "found"] "read_any" (defScope s_read_any) (He.fAd K ("read_any", none)) cdv A outer s H E).A (cxOf (L2.CX P w) P w K mg base ["text", "open_so", "found"] "read_any" (defScope s_read_any) (He.fAd K ("read_any", none)) cdv A outer s H E).env (cxOf (L2.CX P w) P w K mg base ["text", "open_so", "found"] "read_any" (defScope s_read_any) (He.fAd K ("read_any", none)) cdv A outer s H E).xe := po_of rfl
    exact (sCons (sSet (i := 2) sc_read_any.nd rfl (by first | exact Or.inl rfl | exact Or.inr rfl) (xCall h_term_at (hr.mono (by omega)) tk rfl (aCons (xVar (pv 0)) (aCons xInt (aCons (xGInt T.c_MOST_DEPTH) aNil)))))
      (sCons (sIf (yW (wOr (yCmpD oIs (xVar (pv 2)) xNon) (wOr (yNot (yVal (xCall h_has_form (hr.mono (by omega)) tk rfl (aCons (xIx (hu65 hr) (xVar (pv 2)) xInt) (aCons (xVar (pv 1)) aNil))))) (wOr1 (yCmpD (oNe (hu64 hr)) (xCall h_spelled (hr.mono (by omega)) tk rfl (aCons (xIx (hu65 hr) (xVar (pv 2)) xInt) aNil)) (xVar (pv 0))))))) (sOne (sRet xNon)) sNil)
      (sOne (sRet (xIx (hu65 hr) (xVar (pv 2)) xInt))))))
theorem has_read_term (T : Top P w K mg) : Has P w K mg base (He.ga K) "read_term" 30 m_read_term := by
  obtain ⟨fd, D⟩ := T.d_read_term
  have h_read_any := has_read_any (P := P) (base := base) T
  exact has_of (k := 29) D T.g_read_term sc_read_term rfl rfl (D.bindsN fun _ _ _ _ _ _ us hl => match us, hl with | [_], _ => rfl)
    (fun cdv A outer s H E b l O hr => by
    have tk : Takes (cxOf (L2.CX P w) P w K mg base ["text", "term"] "read_term" (defScope s_read_term) (He.fAd K ("read_term", none)) cdv A outer s H E) (fun cls d _ H => E cls d H) := takes_of rfl rfl rfl rfl
    have po : PassesOwn (model P w) (cxOf (L2.CX P w) P w K mg base ["text", "term"] "read_term" (defScope s_read_term) (He.fAd K ("read_term", none)) cdv A outer s H E).A (cxOf (L2.CX P w) P w K mg base ["text", "term"] "read_term" (defScope s_read_term) (He.fAd K ("read_term", none)) cdv A outer s H E).env (cxOf (L2.CX P w) P w K mg base ["text", "term"] "read_term" (defScope s_read_term) (He.fAd K ("read_term", none)) cdv A outer s H E).xe := po_of rfl
    exact (sCons (sIf (yNot (yVal (xCallB cIsi rfl T.n_isinstance (by decide +kernel) (aCons (xVar (pv 0)) (aCons (xTy rfl T.n_str (by decide +kernel)) aNil))))) (sOne (sRaise (c := "BadText") rfl tk (pmk_sup (k := 0) T.s_BadText (hr.mono (by omega)) T.n_super T.m_super (by decide +kernel) rfl T.g_BadText (aCons (xNeg xInt) aNil)))) sNil)
      (sCons (sSet (i := 1) sc_read_term.nd rfl (by first | exact Or.inl rfl | exact Or.inr rfl) (xCall h_read_any (hr.mono (by omega)) tk rfl (aCons (xVar (pv 0)) (aCons xBl aNil))))
      (sCons (sIf (yCmpD oIs (xVar (pv 1)) xNon) (sOne (sRaise (c := "BadText") rfl tk (pmk_sup (k := 0) T.s_BadText (hr.mono (by omega)) T.n_super T.m_super (by decide +kernel) rfl T.g_BadText (aCons xInt aNil)))) sNil)
      (sOne (sRet (xVar (pv 1))))))))
theorem has_law_same (T : Top P w K mg) : ∀ n : Nat, Has P w K mg base (He.ga K) "_law_same" (1 + 1 * n) (m_law_same n)
  | 0 => by
    obtain ⟨fd, D⟩ := T.d_law_same
    exact has_false (ps := ["_law_actual", "_law_due"]) D T.g_law_same (D.bindsN fun _ _ _ _ _ _ us hl => match us, hl with | [_, _], _ => rfl)
  | n + 1 => by
    obtain ⟨fd, D⟩ := T.d_law_same
    have h_law_same := has_law_same T n
    exact Has.mono (has_of (k := 1 + 1 * n) D T.g_law_same sc_law_same rfl rfl (D.bindsN fun _ _ _ _ _ _ us hl => match us, hl with | [_, _], _ => rfl)
    (fun cdv A outer s H E b l O hr => by
    have tk : Takes (cxOf (L2.CX P w) P w K mg base ["_law_actual", "_law_due", "_law_key", "_law_k"] "_law_same" (defScope s_law_same) (He.fAd K ("_law_same", none)) cdv A outer s H E) (fun cls d _ H => E cls d H) := takes_of rfl rfl rfl rfl
    have po : PassesOwn (model P w) (cxOf (L2.CX P w) P w K mg base ["_law_actual", "_law_due", "_law_key", "_law_k"] "_law_same" (defScope s_law_same) (He.fAd K ("_law_same", none)) cdv A outer s H E).A (cxOf (L2.CX P w) P w K mg base ["_law_actual", "_law_due", "_law_key", "_law_k"] "_law_same" (defScope s_law_same) (He.fAd K ("_law_same", none)) cdv A outer s H E).env (cxOf (L2.CX P w) P w K mg base ["_law_actual", "_law_due", "_law_key", "_law_k"] "_law_same" (defScope s_law_same) (He.fAd K ("_law_same", none)) cdv A outer s H E).xe := po_of rfl
    exact (sCons (sIf (yCmpD oIs (xVar (pv 1)) xNon) (sOne (sRet (xCmpD oIs (xVar (pv 0)) xNon))) sNil)
      (sCons (sIf (yW (wOr (yVal (xCallB cIsi rfl T.n_isinstance (by decide +kernel) (aCons (xVar (pv 1)) (aCons (xTy rfl T.n_bool (by decide +kernel)) aNil)))) (wOr1 (yVal (xCallB cIsi rfl T.n_isinstance (by decide +kernel) (aCons (xVar (pv 0)) (aCons (xTy rfl T.n_bool (by decide +kernel)) aNil))))))) (sOne (sRet (xAnd (xCallB cIsi rfl T.n_isinstance (by decide +kernel) (aCons (xVar (pv 1)) (aCons (xTy rfl T.n_bool (by decide +kernel)) aNil))) (xAnd (xCallB cIsi rfl T.n_isinstance (by decide +kernel) (aCons (xVar (pv 0)) (aCons (xTy rfl T.n_bool (by decide +kernel)) aNil))) (xOne (xCmpD (oEq (hu64 hr)) (xVar (pv 0)) (xVar (pv 1)))))))) sNil)
      (sCons (sIf (yVal (xCallB cIsi rfl T.n_isinstance (by decide +kernel) (aCons (xVar (pv 1)) (aCons (xTy rfl T.n_int (by decide +kernel)) aNil)))) (sOne (sRet (xAnd (xCallB cIsi rfl T.n_isinstance (by decide +kernel) (aCons (xVar (pv 0)) (aCons (xTy rfl T.n_int (by decide +kernel)) aNil))) (xOne (xCmpD (oEq (hu64 hr)) (xVar (pv 0)) (xVar (pv 1))))))) sNil)
      (sCons (sIf (yVal (xCallB cIsi rfl T.n_isinstance (by decide +kernel) (aCons (xVar (pv 1)) (aCons (xTy rfl T.n_str (by decide +kernel)) aNil)))) (sOne (sRet (xAnd (xCallB cIsi rfl T.n_isinstance (by decide +kernel) (aCons (xVar (pv 0)) (aCons (xTy rfl T.n_str (by decide +kernel)) aNil))) (xOne (xCmpD (oEq (hu64 hr)) (xVar (pv 0)) (xVar (pv 1))))))) sNil)
      (sCons (sIf (yVal (xCallB cIsi rfl T.n_isinstance (by decide +kernel) (aCons (xVar (pv 1)) (aCons (xTy rfl T.n_dict (by decide +kernel)) aNil)))) (sCons (sIf (yW (wOr (yNot (yVal (xCallB cIsi rfl T.n_isinstance (by decide +kernel) (aCons (xVar (pv 0)) (aCons (xTy rfl T.n_dict (by decide +kernel)) aNil))))) (wOr1 (yCmpD (oNe (hu64 hr)) (xNew (nCallB (cSort rfl) rfl T.n_sorted (by decide +kernel) (aCons (xNew (nCallTy (cList rfl) rfl T.n_list (by decide +kernel) (aCons (xVar (pv 0)) aNil))) aNil))) (xNew (nCallB (cSort rfl) rfl T.n_sorted (by decide +kernel) (aCons (xNew (nCallTy (cList rfl) rfl T.n_list (by decide +kernel) (aCons (xVar (pv 1)) aNil))) aNil))))))) (sOne (sRet xBl)) sNil)
      (sOne (sRet (xCmpD (oEq (hu64 hr)) (xCallB (cLen rfl) rfl T.n_len (by decide +kernel) (aCons (xNew (nLc rfl sc_law_same.nd (blkOk_by (own := [("_law_key", 2)]) (by kernel_rfl)) (iSeq (xVar (pv 1))) (fun _ _ _ _ _ _ => (gName1 (pg_name (i := 2) sc_law_same.nd rfl (by first | exact Or.inl rfl | exact Or.inr rfl)) (by decide))) (fun _ _ _ _ _ _ => (tOneD (yNot (yVal (xCall h_law_same (hr.mono (by omega)) takes0 rfl (aCons (xIx (hu65 hr) (xVar (pv 0)) (xVar (pv 2))) (aCons (xIx (hu65 hr) (xVar (pv 1)) (xVar (pv 2))) aNil))))))) (fun _ _ _ _ _ _ => (xVar (pv 2))))) aNil)) xInt)))) sNil)
      (sCons (sIf (yW (wOr (yCmpD (oNe (hu64 hr)) (xCallB cIsi rfl T.n_isinstance (by decide +kernel) (aCons (xVar (pv 1)) (aCons (xTy rfl T.n_list (by decide +kernel)) aNil))) (xCallB cIsi rfl T.n_isinstance (by decide +kernel) (aCons (xVar (pv 0)) (aCons (xTy rfl T.n_list (by decide +kernel)) aNil)))) (wOr1 (yNot (yVal (xIsi2 (xVar (pv 0)) rfl T.n_isinstance rfl T.n_list (by decide +kernel) rfl T.n_tuple (by decide +kernel) (by decide) (by decide))))))) (sOne (sRet xBl)) sNil)
      (sCons (sIf (yCmpD (oNe (hu64 hr)) (xCallB (cLen rfl) rfl T.n_len (by decide +kernel) (aCons (xVar (pv 0)) aNil)) (xCallB (cLen rfl) rfl T.n_len (by decide +kernel) (aCons (xVar (pv 1)) aNil))) (sOne (sRet xBl)) sNil)
      (sOne (sRet (xCmpD (oEq (hu64 hr)) (xCallB (cLen rfl) rfl T.n_len (by decide +kernel) (aCons (xNew (nLc rfl sc_law_same.nd (blkOk_by (own := [("_law_k", 3)]) (by kernel_rfl)) (iRange1 rfl T.n_range (aCons (xCallB (cLen rfl) rfl T.n_len (by decide +kernel) (aCons (xVar (pv 1)) aNil)) aNil)) (fun _ _ _ _ _ _ => (gName1 (pg_name (i := 3) sc_law_same.nd rfl (by first | exact Or.inl rfl | exact Or.inr rfl)) (by decide))) (fun _ _ _ _ _ _ => (tOneD (yNot (yVal (xCall h_law_same (hr.mono (by omega)) takes0 rfl (aCons (xIx (hu65 hr) (xVar (pv 0)) (xVar (pv 3))) (aCons (xIx (hu65 hr) (xVar (pv 1)) (xVar (pv 3))) aNil))))))) (fun _ _ _ _ _ _ => (xVar (pv 3))))) aNil)) xInt)))))))))))) (by omega)
theorem has_law_names (T : Top P w K mg) : Has P w K mg base (He.ga K) "_law_names" 3 m_law_names := by
  obtain ⟨fd, D⟩ := T.d_law_names
  have h_law_draw := has_draw (P := P) (base := base) T
  exact has_of (k := 2) D T.g_law_names sc_law_names rfl rfl (D.bindsN fun _ _ _ _ _ _ us hl => match us, hl with | [_, _], _ => rfl)
    (fun cdv A outer s H E b l O hr => by
    have tk : Takes (cxOf (L2.CX P w) P w K mg base ["_law_bag_here", "_law_many", "_law_letters", "_law_names_here", "_law_k", "_law_size", "_law_name", "_law_at", "_law_letter"] "_law_names" (defScope s_law_names) (He.fAd K ("_law_names", none)) cdv A outer s H E) (fun cls d _ H => E cls d H) := takes_of rfl rfl rfl rfl
    have po : PassesOwn (model P w) (cxOf (L2.CX P w) P w K mg base ["_law_bag_here", "_law_many", "_law_letters", "_law_names_here", "_law_k", "_law_size", "_law_name", "_law_at", "_law_letter"] "_law_names" (defScope s_law_names) (He.fAd K ("_law_names", none)) cdv A outer s H E).A (cxOf (L2.CX P w) P w K mg base ["_law_bag_here", "_law_many", "_law_letters", "_law_names_here", "_law_k", "_law_size", "_law_name", "_law_at", "_law_letter"] "_law_names" (defScope s_law_names) (He.fAd K ("_law_names", none)) cdv A outer s H E).env (cxOf (L2.CX P w) P w K mg base ["_law_bag_here", "_law_many", "_law_letters", "_law_names_here", "_law_k", "_law_size", "_law_name", "_law_at", "_law_letter"] "_law_names" (defScope s_law_names) (He.fAd K ("_law_names", none)) cdv A outer s H E).xe := po_of rfl
    exact (sCons (sSet (i := 2) sc_law_names.nd rfl (by first | exact Or.inl rfl | exact Or.inr rfl) (xStr (okS_by (by decide +kernel))))
      (sCons (sOwn (i := 3) sc_law_names.nd rfl (by first | exact Or.inl rfl | exact Or.inr rfl) (nLst aNil))
      (sCons (sFor (vs := [4]) po rfl (iRange1 rfl T.n_range (aCons (xVar (pv 1)) aNil)) (fun _ => (gName1 (pg_name (i := 4) sc_law_names.nd rfl (by first | exact Or.inl rfl | exact Or.inr rfl)) (by decide))) (fun _ => (sCons (sSet (i := 5) sc_law_names.nd rfl (by first | exact Or.inl rfl | exact Or.inr rfl) (xIx (hu65 hr) (xNew (nLst (aCons xInt (aCons xInt (aCons xInt (aCons xInt (aCons xInt aNil))))))) (xCall h_law_draw (hr.mono (by omega)) tk rfl (aCons (xVar (pv 0)) (aCons xInt aNil)))))
      (sCons (sSet (i := 6) sc_law_names.nd rfl (by first | exact Or.inl rfl | exact Or.inr rfl) (xJoin (xStr (okS_by (by decide +kernel))) (xNew (nLc rfl sc_law_names.nd (blkOk_by (own := [("_law_at", 7)]) (by kernel_rfl)) (iRange1 rfl T.n_range (aCons (xVar (pv 5)) aNil)) (fun _ _ _ _ _ _ => (gName1 (pg_name (i := 7) sc_law_names.nd rfl (by first | exact Or.inl rfl | exact Or.inr rfl)) (by decide))) (fun _ _ _ _ _ _ => tYesD) (fun _ _ _ _ _ _ => (xIx (hu65 hr) (xVar (pv 2)) (xCall h_law_draw (hr.mono (by omega)) takes0 rfl (aCons (xVar (pv 0)) (aCons xInt aNil)))))))))
      (sCons (sIf (yCmpD (oEq (hu64 hr)) (xCall h_law_draw (hr.mono (by omega)) tk rfl (aCons (xVar (pv 0)) (aCons xInt aNil))) xInt) (sOne (sSet (i := 6) sc_law_names.nd rfl (by first | exact Or.inl rfl | exact Or.inr rfl) (xIx (hu65 hr) (xNew (nLst (aCons (xStr (okS_by (by decide +kernel))) (aCons (xStr (okS_by (by decide +kernel))) (aCons (xStr (okS_by (by decide +kernel))) (aCons (xStr (okS_by (by decide +kernel))) (aCons (xStr (okS_by (by decide +kernel))) (aCons (xStr (okS_by (by decide +kernel))) aNil)))))))) (xCall h_law_draw (hr.mono (by omega)) tk rfl (aCons (xVar (pv 0)) (aCons xInt aNil)))))) sNil)
      (sCons (sIf (yCmpOwn (oIn (hu65 hr) rfl) (xVar (pv 6)) (pv 3)) (sOne (sSet (i := 6) sc_law_names.nd rfl (by first | exact Or.inl rfl | exact Or.inr rfl) (xIx (hu65 hr) (xNew (nLc rfl sc_law_names.nd (blkOk_by (own := [("_law_letter", 8)]) (by kernel_rfl)) (iSeq (xVar (pv 2))) (fun _ _ _ _ _ _ => (gName1 (pg_name (i := 8) sc_law_names.nd rfl (by first | exact Or.inl rfl | exact Or.inr rfl)) (by decide))) (fun _ _ _ _ _ _ => (tOneD (yCmpOwn (oNotIn (hu65 hr) rfl) (xOpD oAdd (xVar (pv 8)) (xStr (okS_by (by decide +kernel)))) (pv 3)))) (fun _ _ _ _ _ _ => (xOpD oAdd (xVar (pv 8)) (xStr (okS_by (by decide +kernel))))))) xInt))) sNil)
      (sOne (sAppendX (pv 3) (xVar (pv 6))))))))))
      (sFrz (i := 3) (sOne (sRet (xVar (pv 3)))))))))
theorem has_law_pick (T : Top P w K mg) : Has P w K mg base (He.ga K) "_law_pick" 3 m_law_pick := by
  obtain ⟨fd, D⟩ := T.d_law_pick
  have h_law_draw := has_draw (P := P) (base := base) T
  exact has_of (k := 2) D T.g_law_pick sc_law_pick rfl rfl (D.bindsN fun _ _ _ _ _ _ us hl => match us, hl with | [_, _], _ => rfl)
    (fun cdv A outer s H E b l O hr => by
    have tk : Takes (cxOf (L2.CX P w) P w K mg base ["_law_bag_here", "_law_things"] "_law_pick" (defScope s_law_pick) (He.fAd K ("_law_pick", none)) cdv A outer s H E) (fun cls d _ H => E cls d H) := takes_of rfl rfl rfl rfl
    have po : PassesOwn (model P w) (cxOf (L2.CX P w) P w K mg base ["_law_bag_here", "_law_things"] "_law_pick" (defScope s_law_pick) (He.fAd K ("_law_pick", none)) cdv A outer s H E).A (cxOf (L2.CX P w) P w K mg base ["_law_bag_here", "_law_things"] "_law_pick" (defScope s_law_pick) (He.fAd K ("_law_pick", none)) cdv A outer s H E).env (cxOf (L2.CX P w) P w K mg base ["_law_bag_here", "_law_things"] "_law_pick" (defScope s_law_pick) (He.fAd K ("_law_pick", none)) cdv A outer s H E).xe := po_of rfl
    exact (sOne (sRet (xIx (hu65 hr) (xVar (pv 1)) (xCall h_law_draw (hr.mono (by omega)) tk rfl (aCons (xVar (pv 0)) (aCons (xCallB (cLen rfl) rfl T.n_len (by decide +kernel) (aCons (xVar (pv 1)) aNil)) aNil)))))))
theorem has_law_leaf (T : Top P w K mg) : Has P w K mg base (He.ga K) "_law_leaf" 4 m_law_leaf := by
  obtain ⟨fd, D⟩ := T.d_law_leaf
  have h_law_draw := has_draw (P := P) (base := base) T
  have h_law_pick := has_law_pick (P := P) (base := base) T
  exact has_of (k := 3) D T.g_law_leaf sc_law_leaf rfl rfl (D.bindsN fun _ _ _ _ _ _ us hl => match us, hl with | [_, _, _], _ => rfl)
    (fun cdv A outer s H E b l O hr => by
    have tk : Takes (cxOf (L2.CX P w) P w K mg base ["_law_bag_here", "_law_names_here", "_law_variables"] "_law_leaf" (defScope s_law_leaf) (He.fAd K ("_law_leaf", none)) cdv A outer s H E) (fun cls d _ H => E cls d H) := takes_of rfl rfl rfl rfl
    have po : PassesOwn (model P w) (cxOf (L2.CX P w) P w K mg base ["_law_bag_here", "_law_names_here", "_law_variables"] "_law_leaf" (defScope s_law_leaf) (He.fAd K ("_law_leaf", none)) cdv A outer s H E).A (cxOf (L2.CX P w) P w K mg base ["_law_bag_here", "_law_names_here", "_law_variables"] "_law_leaf" (defScope s_law_leaf) (He.fAd K ("_law_leaf", none)) cdv A outer s H E).env (cxOf (L2.CX P w) P w K mg base ["_law_bag_here", "_law_names_here", "_law_variables"] "_law_leaf" (defScope s_law_leaf) (He.fAd K ("_law_leaf", none)) cdv A outer s H E).xe := po_of rfl
    exact (sCons (sIf (yW (wAnd (yCmpD oGt (xCallB (cLen rfl) rfl T.n_len (by decide +kernel) (aCons (xVar (pv 2)) aNil)) xInt) (wAnd1 (yW (wOr (yCmpD (oEq (hu64 hr)) (xCallB (cLen rfl) rfl T.n_len (by decide +kernel) (aCons (xVar (pv 1)) aNil)) xInt) (wOr1 (yCmpD oGt (xCall h_law_draw (hr.mono (by omega)) tk rfl (aCons (xVar (pv 0)) (aCons xInt aNil))) xInt))))))) (sOne (sRet (xTup (aCons (xStr (okS_by (by decide +kernel))) (aCons (xCall h_law_pick (hr.mono (by omega)) tk rfl (aCons (xVar (pv 0)) (aCons (xVar (pv 2)) aNil))) aNil))))) sNil)
      (sOne (sRet (xCall h_law_pick (hr.mono (by omega)) tk rfl (aCons (xVar (pv 0)) (aCons (xVar (pv 1)) aNil)))))))
theorem has_law_pattern (T : Top P w K mg) : ∀ n : Nat, Has P w K mg base (He.ga K) "_law_pattern" (5 + 1 * n) (m_law_pattern n)
  | 0 => by
    obtain ⟨fd, D⟩ := T.d_law_pattern
    exact has_false (ps := ["_law_bag_here", "_law_names_here", "_law_variables", "_law_depth"]) D T.g_law_pattern (D.bindsN fun _ _ _ _ _ _ us hl => match us, hl with | [_, _, _, _], _ => rfl)
  | n + 1 => by
    obtain ⟨fd, D⟩ := T.d_law_pattern
    have h_law_pattern := has_law_pattern T n
    have h_law_draw := has_draw (P := P) (base := base) T
    have h_law_leaf := has_law_leaf (P := P) (base := base) T
    exact Has.mono (has_of (k := 5 + 1 * n) D T.g_law_pattern sc_law_pattern rfl rfl (D.bindsN fun _ _ _ _ _ _ us hl => match us, hl with | [_, _, _, _], _ => rfl)
    (fun cdv A outer s H E b l O hr => by
    have tk : Takes (cxOf (L2.CX P w) P w K mg base ["_law_bag_here", "_law_names_here", "_law_variables", "_law_depth", "_law_kind", "_law_first", "_law_key", "_law_leaf_here", "_law_inner"] "_law_pattern" (defScope s_law_pattern) (He.fAd K ("_law_pattern", none)) cdv A outer s H E) (fun cls d _ H => E cls d H) := takes_of rfl rfl rfl rfl
    have po : PassesOwn (model P w) (cxOf (L2.CX P w) P w K mg base ["_law_bag_here", "_law_names_here", "_law_variables", "_law_depth", "_law_kind", "_law_first", "_law_key", "_law_leaf_here", "_law_inner"] "_law_pattern" (defScope s_law_pattern) (He.fAd K ("_law_pattern", none)) cdv A outer s H E).A (cxOf (L2.CX P w) P w K mg base ["_law_bag_here", "_law_names_here", "_law_variables", "_law_depth", "_law_kind", "_law_first", "_law_key", "_law_leaf_here", "_law_inner"] "_law_pattern" (defScope s_law_pattern) (He.fAd K ("_law_pattern", none)) cdv A outer s H E).env (cxOf (L2.CX P w) P w K mg base ["_law_bag_here", "_law_names_here", "_law_variables", "_law_depth", "_law_kind", "_law_first", "_law_key", "_law_leaf_here", "_law_inner"] "_law_pattern" (defScope s_law_pattern) (He.fAd K ("_law_pattern", none)) cdv A outer s H E).xe := po_of rfl
    exact (sCons (sSet (i := 4) sc_law_pattern.nd rfl (by first | exact Or.inl rfl | exact Or.inr rfl) (xCall h_law_draw (hr.mono (by omega)) tk rfl (aCons (xVar (pv 0)) (aCons xInt aNil))))
      (sCons (sIf (yW (wOr (yCmpD (oEq (hu64 hr)) (xVar (pv 3)) xInt) (wOr1 (yCmpD oLt (xVar (pv 4)) xInt)))) (sOne (sRet (xCall h_law_leaf (hr.mono (by omega)) tk rfl (aCons (xVar (pv 0)) (aCons (xVar (pv 1)) (aCons (xVar (pv 2)) aNil)))))) sNil)
      (sCons (sIf (yCmpD oLt (xVar (pv 4)) xInt) (sCons (sSet (i := 5) sc_law_pattern.nd rfl (by first | exact Or.inl rfl | exact Or.inr rfl) (xCall h_law_pattern (hr.mono (by omega)) tk rfl (aCons (xVar (pv 0)) (aCons (xVar (pv 1)) (aCons (xVar (pv 2)) (aCons (xOpD oSub (xVar (pv 3)) xInt) aNil))))))
      (sOne (sRet (xTup (aCons (xStr (okS_by (by decide +kernel))) (aCons (xVar (pv 5)) (aCons (xCall h_law_pattern (hr.mono (by omega)) tk rfl (aCons (xVar (pv 0)) (aCons (xVar (pv 1)) (aCons (xVar (pv 2)) (aCons (xOpD oSub (xVar (pv 3)) xInt) aNil))))) aNil))))))) sNil)
      (sCons (sIf (yCmpD oLt (xVar (pv 4)) xInt) (sCons (sSet (i := 6) sc_law_pattern.nd rfl (by first | exact Or.inl rfl | exact Or.inr rfl) (xCall h_law_leaf (hr.mono (by omega)) tk rfl (aCons (xVar (pv 0)) (aCons (xVar (pv 1)) (aCons (xVar (pv 2)) aNil)))))
      (sCons (sIf (yCmpD (oEq (hu64 hr)) (xCall h_law_draw (hr.mono (by omega)) tk rfl (aCons (xVar (pv 0)) (aCons xInt aNil))) xInt) (sOne (sSet (i := 6) sc_law_pattern.nd rfl (by first | exact Or.inl rfl | exact Or.inr rfl) (xCall h_law_pattern (hr.mono (by omega)) tk rfl (aCons (xVar (pv 0)) (aCons (xVar (pv 1)) (aCons (xVar (pv 2)) (aCons (xOpD oSub (xVar (pv 3)) xInt) aNil))))))) sNil)
      (sOne (sRet (xTup (aCons (xStr (okS_by (by decide +kernel))) (aCons (xVar (pv 6)) (aCons (xCall h_law_pattern (hr.mono (by omega)) tk rfl (aCons (xVar (pv 0)) (aCons (xVar (pv 1)) (aCons (xVar (pv 2)) (aCons (xOpD oSub (xVar (pv 3)) xInt) aNil))))) aNil)))))))) sNil)
      (sCons (sSet (i := 7) sc_law_pattern.nd rfl (by first | exact Or.inl rfl | exact Or.inr rfl) (xCall h_law_leaf (hr.mono (by omega)) tk rfl (aCons (xVar (pv 0)) (aCons (xVar (pv 1)) (aCons (xVar (pv 2)) aNil)))))
      (sCons (sIf (yCmpD (oEq (hu64 hr)) (xVar (pv 4)) xInt) (sOne (sRet (xTup (aCons (xStr (okS_by (by decide +kernel))) (aCons (xVar (pv 7)) aNil))))) sNil)
      (sCons (sSet (i := 8) sc_law_pattern.nd rfl (by first | exact Or.inl rfl | exact Or.inr rfl) (xCall h_law_pattern (hr.mono (by omega)) tk rfl (aCons (xVar (pv 0)) (aCons (xVar (pv 1)) (aCons (xVar (pv 2)) (aCons (xOpD oSub (xVar (pv 3)) xInt) aNil))))))
      (sCons (sIf (yCmpD (oEq (hu64 hr)) (xVar (pv 4)) xInt) (sOne (sRet (xTup (aCons (xStr (okS_by (by decide +kernel))) (aCons (xVar (pv 7)) (aCons (xVar (pv 8)) aNil)))))) sNil)
      (sCons (sIf (yCmpD (oEq (hu64 hr)) (xVar (pv 4)) xInt) (sOne (sRet (xTup (aCons (xStr (okS_by (by decide +kernel))) (aCons (xVar (pv 7)) (aCons (xVar (pv 8)) aNil)))))) sNil)
      (sOne (sRet (xTup (aCons (xStr (okS_by (by decide +kernel))) (aCons (xVar (pv 8)) aNil)))))))))))))))) (by omega)
theorem has_law_term (T : Top P w K mg) : Has P w K mg base (He.ga K) "_law_term" 14 m_law_term := by
  obtain ⟨fd, D⟩ := T.d_law_term
  have h_law_pattern := has_law_pattern (P := P) (base := base) T 8
  exact has_of (k := 13) D T.g_law_term sc_law_term rfl rfl (D.bindsN fun _ _ _ _ _ _ us hl => match us, hl with | [_, _, _], _ => rfl)
    (fun cdv A outer s H E b l O hr => by
    have tk : Takes (cxOf (L2.CX P w) P w K mg base ["_law_bag_here", "_law_names_here", "_law_depth"] "_law_term" (defScope s_law_term) (He.fAd K ("_law_term", none)) cdv A outer s H E) (fun cls d _ H => E cls d H) := takes_of rfl rfl rfl rfl
    have po : PassesOwn (model P w) (cxOf (L2.CX P w) P w K mg base ["_law_bag_here", "_law_names_here", "_law_depth"] "_law_term" (defScope s_law_term) (He.fAd K ("_law_term", none)) cdv A outer s H E).A (cxOf (L2.CX P w) P w K mg base ["_law_bag_here", "_law_names_here", "_law_depth"] "_law_term" (defScope s_law_term) (He.fAd K ("_law_term", none)) cdv A outer s H E).env (cxOf (L2.CX P w) P w K mg base ["_law_bag_here", "_law_names_here", "_law_depth"] "_law_term" (defScope s_law_term) (He.fAd K ("_law_term", none)) cdv A outer s H E).xe := po_of rfl
    exact (sOne (sRet (xCall h_law_pattern (hr.mono (by omega)) tk rfl (aCons (xVar (pv 0)) (aCons (xVar (pv 1)) (aCons (xNew (nLst aNil)) (aCons (xVar (pv 2)) aNil))))))))
theorem ok_bag (T : Top P w K mg) : ∃ fd, FnOk P w K mg base (L2.CX P w) 1 (He.fAd K ("_law_bag", none)) fd ["_law_script"] (spBag K) ∧ Binds K fd ["_law_script"] [] ∧ PySem.W.keepIn K (.ref (He.fAd K ("_law_bag", none))) = true := by
  obtain ⟨fd, D⟩ := T.d_law_bag
  refine ⟨fd, D.ok (k := 0) sc_law_bag (fun vs H Q E h => ?_) (fun cdv A outer s H vs Q E hr h => ?_), D.bindsN fun _ _ _ _ _ _ us hl => match us, hl with | [_], _ => rfl, D.kp⟩
  · obtain ⟨a, ns, rfl, _⟩ := h
    rfl
  obtain ⟨a, ns, rfl, hS, kq⟩ := h
  have cut : ∃ ns' : List Int, cutV (ns.map V.int) none (some 63) = ns'.map V.int := ⟨_, by unfold cutV; rw [← List.map_drop, ← List.map_take]⟩
  obtain ⟨ns', hcut⟩ := cut
  refine ⟨_, PSs.nox (pss_cons (ps_set (i := 1) sc_law_bag.nd rfl (Or.inl rfl) pe_int)
    (pss_cons (ps_for PassesOwn.never rfl (pi_list (pe_slice sl_list (pv 0) po_none (po_some pe_int))) (pg_name (i := 2) sc_law_bag.nd rfl (Or.inl rfl))
      (pss_one (ps_set (i := 1) sc_law_bag.nd rfl (Or.inl rfl) (pe_op op_mod (pe_callTy call_int1 rfl T.n_int boot_int (pa_cons (pe_op op_add (pe_op op_add (pe_op op_mul (pv 1) pe_int) (pv 2)) pe_int) pa_nil)) pe_int))))
    (pss_one (ps_ret (pe_lst (pa_cons (pe_callTy call_list_of rfl T.n_list (by decide +kernel) (pa_cons (pe_slice sl_list (pv 0) po_none (po_some pe_int)) pa_nil)) (pa_cons pe_int (pa_cons pe_int (pa_cons pe_int (pa_cons (pv 1) pa_nil)))))))))), ?_⟩
  refine ⟨_, rfl, 63, rfl, a, _, rfl, hS, fun p hp => ⟨p, rfl, ⟨_, SqL.of upd_same⟩, ?_⟩⟩
  rw [hcut]
  have sp : Same H (upd H p (.lst (ns'.map V.int))) := fun b o e => by rw [upd_ne (ne_of_none e hp)]; exact e
  refine for_list (K := K) (a := p) (xs := ns'.map V.int) (fun i σ H' => ∃ (c : Option V) (sd : Int), σ = [some (.ref a), some (.int sd), c] ∧ H' = upd H p (.lst (ns'.map V.int)) ∧ 0 ≤ sd ∧ sd < 2147483629) ⟨none, 37, rfl, rfl, by decide, by decide⟩ (fun i σ H' _ ⟨_, _, _, e, _⟩ => by rw [e]; exact SqL.of upd_same) ?_ ?_
  · rintro i y σ H' hi ⟨c, sd, rfl, rfl, h1, h2⟩
    obtain ⟨z, rfl⟩ : ∃ z, y = V.int z := by
      rw [List.getElem?_map] at hi
      cases e : ns'[i]? with
      | none => rw [e] at hi; cases hi
      | some z => rw [e] at hi; exact ⟨z, (Option.some.inj hi).symm⟩
    exact ⟨_, rfl, _, _, rfl, rfl, .inr ⟨by decide, by decide⟩, _, rfl, _, _, rfl, rfl, _, _, rfl, rfl, .inl ⟨_, rfl, _, _, rfl, rfl, (by show (0 : Int) < _; decide), ⟨some (.int z), _, rfl, rfl, Int.emod_nonneg _ (by decide), Int.emod_lt_of_pos _ (by decide)⟩⟩⟩
  · rintro σ H' ⟨c, sd, rfl, rfl, h1, h2⟩
    refine ⟨_, rfl, 63, rfl, a, _, rfl, sp.seq hS, fun p2 hp2 => ⟨p2, _, rfl, .inl (SqL.of upd_same), fun l hl => ⟨_, rfl, by show 5 ≤ sizeLine; decide, fun b hb => ?_⟩⟩⟩
    rw [hcut] at hl hb ⊢
    have e1 : ∀ c o, H c = some o → (upd (upd (upd (upd H p (.lst (ns'.map V.int))) p2 (.lst (ns'.map V.int))) l (.lst (ns'.map V.int))) b (.lst [.ref l, .int 0, .int 0, .int 0, .int sd])) c = some o := fun c o e => by
      have z1 := sp c o e
      have z2 : (upd (upd H p (.lst (ns'.map V.int))) p2 (.lst (ns'.map V.int))) c = some o := by rw [upd_ne (ne_of_none z1 hp2)]; exact z1
      have z3 : (upd (upd (upd H p (.lst (ns'.map V.int))) p2 (.lst (ns'.map V.int))) l (.lst (ns'.map V.int))) c = some o := by rw [upd_ne (ne_of_none z2 hl)]; exact z2
      rw [upd_ne (ne_of_none z3 hb)]; exact z3
    have nf : ∀ c, (upd (upd (upd (upd H p (.lst (ns'.map V.int))) p2 (.lst (ns'.map V.int))) l (.lst (ns'.map V.int))) b (.lst [.ref l, .int 0, .int 0, .int 0, .int sd])) c = none → H c = none := fun c z => by
      cases q : H c with
      | none => rfl
      | some o => rw [e1 c o q] at z; cases z
    have lb : l ≠ b := ne_of_none (H := upd (upd (upd H p (.lst (ns'.map V.int))) p2 (.lst (ns'.map V.int))) l (.lst (ns'.map V.int))) upd_same hb
    have old : ∀ {G : Hp} {c d : Addr} {o : HO}, (upd G c o) d = none → G d = none := fun {G c d o} z => by
      unfold upd at z
      split at z
      · cases z
      · exact z
    refine kq ⟨b, l, w⟩ _ e1 (old (old (old hb))) (old (old hl)) ⟨lb, ns', 0, 0, 0, sd, upd_same, ?_, by decide, by decide, by decide, h1, h2⟩
    rw [upd_ne lb]
    exact upd_same

def spLaw (K : PySem.W.Frag) : Sp := fun vs H Q _ => ∃ (a : Addr) (ns : List Int), vs = [.ref a] ∧ SqL K H a (ns.map V.int) ∧ ∀ H', Q (.bl true) H'
theorem ok_law (T : Top P w K mg) (ok : LawOk) {fd : FuncData} (DF : FunD K "law" "law" (defArgs s_law) (defBody s_law) (defScope s_law) [] [] (He.fAd K ("law", none)) fd) : FnOk P w K mg base CX0 (31 + 1) (He.fAd K ("law", none)) fd ["_law_script"] (spLaw K) ∧ ∀ (s : Shared) (v : Value), BindsTo s fd ⟨[v], []⟩ [("_law_script", v)] := by
  obtain ⟨fb, GB, bB, kB⟩ := ok_bag (P := P) (w := w) (base := base) T
  have h_law_names := has_law_names (P := P) (base := base) T
  have h_law_draw := has_draw (P := P) (base := base) T
  have h_law_term := has_law_term (P := P) (base := base) T
  have h_parts_of := has_parts_of (P := P) (base := base) T
  have h_worded := has_worded (P := P) (base := base) T
  have h_renamed := has_renamed (P := P) (base := base) T
  have h_law_same := has_law_same (P := P) (base := base) T 16
  have h_read_term := has_read_term (P := P) (base := base) T
  have h_names_of := has_names_of (P := P) (base := base) T
  have h_size_of := has_size_of (P := P) (base := base) T
  have h_depth_of := has_depth_of (P := P) (base := base) T
  have b := FunD.bindsA (ps := ["_law_script"]) DF fun _ _ _ _ _ _ us hl => match us, hl with | [_], _ => rfl
  refine ⟨DF.ok (k := 31) sc_law (fun vs H Q E h => ?_) (fun cdv A outer s H vs Q E hr h => ?_), fun s v => b s [v] rfl⟩
  · obtain ⟨a, ns, rfl, _⟩ := h
    rfl
  obtain ⟨a, ns, rfl, hS, kq⟩ := h
  have body : ∀ (b l : Addr) (H1 : Hp), PSs (cxOf CX0 P w K mg base ["_law_script", "_law_bag_here", "_law_names_here", "_law_terms", "_law_every", "_law_term_here", "_law_part", "_law_words", "_law_table", "_law_other", "_law_again", "_law_one", "_law_whole", "_law_due", "_law_rest", "_law_turn"] "law" (defScope s_law) (He.fAd K ("law", none)) cdv A outer s H E) ((defBody s_law).tail) (upS ⟨⟨b, l, w⟩, fun c => c = b ∨ c = l, K, H1, [], fun _ _ _ => True⟩ (He.ga K) WF m_law) := fun b l H1 => by
    have tk : Takes (cxOf CX0 P w K mg base ["_law_script", "_law_bag_here", "_law_names_here", "_law_terms", "_law_every", "_law_term_here", "_law_part", "_law_words", "_law_table", "_law_other", "_law_again", "_law_one", "_law_whole", "_law_due", "_law_rest", "_law_turn"] "law" (defScope s_law) (He.fAd K ("law", none)) cdv A outer s H E) WF := takes0
    have po : PassesOwn (model P w) (cxOf CX0 P w K mg base ["_law_script", "_law_bag_here", "_law_names_here", "_law_terms", "_law_every", "_law_term_here", "_law_part", "_law_words", "_law_table", "_law_other", "_law_again", "_law_one", "_law_whole", "_law_due", "_law_rest", "_law_turn"] "law" (defScope s_law) (He.fAd K ("law", none)) cdv A outer s H E).A (cxOf CX0 P w K mg base ["_law_script", "_law_bag_here", "_law_names_here", "_law_terms", "_law_every", "_law_term_here", "_law_part", "_law_words", "_law_table", "_law_other", "_law_again", "_law_one", "_law_whole", "_law_due", "_law_rest", "_law_turn"] "law" (defScope s_law) (He.fAd K ("law", none)) cdv A outer s H E).env (cxOf CX0 P w K mg base ["_law_script", "_law_bag_here", "_law_names_here", "_law_terms", "_law_every", "_law_term_here", "_law_part", "_law_words", "_law_table", "_law_other", "_law_again", "_law_one", "_law_whole", "_law_due", "_law_rest", "_law_turn"] "law" (defScope s_law) (He.fAd K ("law", none)) cdv A outer s H E).xe := po_of rfl
    exact (sCons (sSet (i := 2) sc_law.nd rfl (by first | exact Or.inl rfl | exact Or.inr rfl) (xCall h_law_names (hr.mono (by omega)) tk rfl (aCons (xVar (pv 1)) (aCons xInt aNil))))
      (sCons (sLcSet (i := 3) rfl sc_law.nd rfl rfl (sw_true rfl rfl rfl (by decide +kernel)) (blkOk_by (own := [("_law_turn", 15)]) (by kernel_rfl)) (iRange1 rfl T.n_range (aCons (xOpD oAdd xInt (xCall h_law_draw (hr.mono (by omega)) tk rfl (aCons (xVar (pv 1)) (aCons xInt aNil)))) aNil)) (fun _ _ _ _ _ _ => (gName1 (pg_name (i := 15) sc_law.nd rfl (by first | exact Or.inl rfl | exact Or.inr rfl)) (by decide))) (fun _ _ _ _ _ _ => tYesD) (fun _ _ _ _ _ _ => (xCall h_law_term (hr.mono (by omega)) takes0 rfl (aCons (xVar (pv 1)) (aCons (xVar (pv 2)) (aCons xInt aNil))))))
      (sCons (sSet (i := 4) sc_law.nd rfl (by first | exact Or.inl rfl | exact Or.inr rfl) (xNew (nLst aNil)))
      (sCons (sFor (vs := [5]) po rfl (iSeq (xVar (pv 3))) (fun _ => (gName1 (pg_name (i := 5) sc_law.nd rfl (by first | exact Or.inl rfl | exact Or.inr rfl)) (by decide))) (fun _ => (sCons (sSet (i := 4) sc_law.nd rfl (by first | exact Or.inl rfl | exact Or.inr rfl) (xOpD oAdd (xVar (pv 4)) (xNew (nLc rfl sc_law.nd (blkOk_by (own := [("_law_part", 6)]) (by kernel_rfl)) (iSeq (xCall h_parts_of (hr.mono (by omega)) tk rfl (aCons (xVar (pv 5)) aNil))) (fun _ _ _ _ _ _ => (gName1 (pg_name (i := 6) sc_law.nd rfl (by first | exact Or.inl rfl | exact Or.inr rfl)) (by decide))) (fun _ _ _ _ _ _ => (tOneD (yCmpD (oNotIn (hu65 hr) rfl) (xVar (pv 6)) (xVar (pv 4))))) (fun _ _ _ _ _ _ => (xVar (pv 6)))))))
      (sOne (sFor (vs := [6]) po rfl (iSeq (xCall h_parts_of (hr.mono (by omega)) tk rfl (aCons (xVar (pv 5)) aNil))) (fun _ => (gName1 (pg_name (i := 6) sc_law.nd rfl (by first | exact Or.inl rfl | exact Or.inr rfl)) (by decide))) (fun _ => (sOne (sIf (yCmpD oNotInT (xCall h_worded (hr.mono (by omega)) tk rfl (aCons (xVar (pv 6)) aNil)) (xCall h_worded (hr.mono (by omega)) tk rfl (aCons (xVar (pv 5)) aNil))) (sOne (sRet xBl)) sNil))))))))
      (sCons (sLcSet (i := 7) rfl sc_law.nd rfl rfl (sw_true rfl rfl rfl (by decide +kernel)) (blkOk_by (own := [("_law_part", 6)]) (by kernel_rfl)) (iSeq (xVar (pv 4))) (fun _ _ _ _ _ _ => (gName1 (pg_name (i := 6) sc_law.nd rfl (by first | exact Or.inl rfl | exact Or.inr rfl)) (by decide))) (fun _ _ _ _ _ _ => tYesD) (fun _ _ _ _ _ _ => (xCall h_worded (hr.mono (by omega)) takes0 rfl (aCons (xVar (pv 6)) aNil))))
      (sCons (sIf (yCmpD (oNe (hu64 hr)) (xLenZ rfl T.n_len (by decide +kernel) (zSet rfl rfl T.n_set (by decide +kernel) (xVar (pv 7)))) (xCallB (cLen rfl) rfl T.n_len (by decide +kernel) (aCons (xVar (pv 4)) aNil))) (sOne (sRet xBl)) sNil)
      (sCons (sSet (i := 8) sc_law.nd rfl (by first | exact Or.inl rfl | exact Or.inr rfl) (xNew (nDict (hu65 hr) (fun _ => (.cons (xIx (hu65 hr) (xVar (pv 2)) xInt) (xStr (okS_by (by decide +kernel))) (.cons (xIx (hu65 hr) (xVar (pv 2)) xInt) (xStr (okS_by (by decide +kernel))) .nil))))))
      (sCons (sFor (vs := [5]) po rfl (iSeq (xVar (pv 3))) (fun _ => (gName1 (pg_name (i := 5) sc_law.nd rfl (by first | exact Or.inl rfl | exact Or.inr rfl)) (by decide))) (fun _ => (sCons (sSet (i := 9) sc_law.nd rfl (by first | exact Or.inl rfl | exact Or.inr rfl) (xCall h_renamed (hr.mono (by omega)) tk rfl (aCons (xVar (pv 5)) (aCons (xVar (pv 8)) aNil))))
      (sCons (sIf (yNot (yVal (xCall h_law_same (hr.mono (by omega)) tk rfl (aCons (xCall h_read_term (hr.mono (by omega)) tk rfl (aCons (xCall h_worded (hr.mono (by omega)) tk rfl (aCons (xVar (pv 9)) aNil)) aNil)) (aCons (xVar (pv 9)) aNil))))) (sOne (sRet xBl)) sNil)
      (sCons (sIf (yNot (yVal (xCall h_law_same (hr.mono (by omega)) tk rfl (aCons (xCall h_parts_of (hr.mono (by omega)) tk rfl (aCons (xVar (pv 9)) aNil)) (aCons (xNew (nLc rfl sc_law.nd (blkOk_by (own := [("_law_part", 6)]) (by kernel_rfl)) (iSeq (xCall h_parts_of (hr.mono (by omega)) tk rfl (aCons (xVar (pv 5)) aNil))) (fun _ _ _ _ _ _ => (gName1 (pg_name (i := 6) sc_law.nd rfl (by first | exact Or.inl rfl | exact Or.inr rfl)) (by decide))) (fun _ _ _ _ _ _ => tYesD) (fun _ _ _ _ _ _ => (xCall h_renamed (hr.mono (by omega)) takes0 rfl (aCons (xVar (pv 6)) (aCons (xVar (pv 8)) aNil)))))) aNil))))) (sOne (sRet xBl)) sNil)
      (sCons (sLcSet (i := 10) rfl sc_law.nd rfl rfl (sw_true rfl rfl rfl (by decide +kernel)) (blkOk_by (own := [("_law_part", 6)]) (by kernel_rfl)) (iSeq (xCall h_parts_of (hr.mono (by omega)) tk rfl (aCons (xVar (pv 5)) aNil))) (fun _ _ _ _ _ _ => (gName1 (pg_name (i := 6) sc_law.nd rfl (by first | exact Or.inl rfl | exact Or.inr rfl)) (by decide))) (fun _ _ _ _ _ _ => tYesD) (fun _ _ _ _ _ _ => (xCall h_renamed (hr.mono (by omega)) takes0 rfl (aCons (xCall h_read_term (hr.mono (by omega)) takes0 rfl (aCons (xCall h_worded (hr.mono (by omega)) takes0 rfl (aCons (xVar (pv 6)) aNil)) aNil)) (aCons (xVar (pv 8)) aNil)))))
      (sOne (sIf (yCmpD (oNe (hu64 hr)) (xNew (nLc rfl sc_law.nd (blkOk_by (own := [("_law_part", 6)]) (by kernel_rfl)) (iSeq (xCall h_parts_of (hr.mono (by omega)) tk rfl (aCons (xVar (pv 9)) aNil))) (fun _ _ _ _ _ _ => (gName1 (pg_name (i := 6) sc_law.nd rfl (by first | exact Or.inl rfl | exact Or.inr rfl)) (by decide))) (fun _ _ _ _ _ _ => tYesD) (fun _ _ _ _ _ _ => (xCall h_worded (hr.mono (by omega)) takes0 rfl (aCons (xVar (pv 6)) aNil))))) (xNew (nLc rfl sc_law.nd (blkOk_by (own := [("_law_part", 6)]) (by kernel_rfl)) (iSeq (xVar (pv 10))) (fun _ _ _ _ _ _ => (gName1 (pg_name (i := 6) sc_law.nd rfl (by first | exact Or.inl rfl | exact Or.inr rfl)) (by decide))) (fun _ _ _ _ _ _ => tYesD) (fun _ _ _ _ _ _ => (xCall h_worded (hr.mono (by omega)) takes0 rfl (aCons (xVar (pv 6)) aNil)))))) (sOne (sRet xBl)) sNil))))))))
      (sCons (sSet (i := 11) sc_law.nd rfl (by first | exact Or.inl rfl | exact Or.inr rfl) (xIx (hu65 hr) (xVar (pv 3)) xInt))
      (sCons (sSet (i := 9) sc_law.nd rfl (by first | exact Or.inl rfl | exact Or.inr rfl) (xIx (hu65 hr) (xVar (pv 3)) xInt))
      (sCons (sSet (i := 12) sc_law.nd rfl (by first | exact Or.inl rfl | exact Or.inr rfl) (xTup (aCons (xStr (okS_by (by decide +kernel))) (aCons (xVar (pv 11)) (aCons (xVar (pv 9)) aNil)))))
      (sCons (sIf (yNot (yVal (xCall h_law_same (hr.mono (by omega)) tk rfl (aCons (xCall h_names_of (hr.mono (by omega)) tk rfl (aCons (xVar (pv 12)) aNil)) (aCons (xNew (nSortZ rfl rfl T.n_sorted (by decide +kernel) (zSet rfl rfl T.n_set (by decide +kernel) (xOpD oAdd (xCall h_names_of (hr.mono (by omega)) tk rfl (aCons (xVar (pv 11)) aNil)) (xCall h_names_of (hr.mono (by omega)) tk rfl (aCons (xVar (pv 9)) aNil)))))) aNil))))) (sOne (sRet xBl)) sNil)
      (sCons (sSet (i := 13) sc_law.nd rfl (by first | exact Or.inl rfl | exact Or.inr rfl) (xNew (nLst (aCons (xOpD oAdd (xCall h_size_of (hr.mono (by omega)) tk rfl (aCons (xVar (pv 11)) aNil)) (xCall h_size_of (hr.mono (by omega)) tk rfl (aCons (xVar (pv 9)) aNil))) (aCons (xOpD oAdd xInt (xCallB (cMax rfl) rfl T.n_max (by decide +kernel) (aCons (xCall h_depth_of (hr.mono (by omega)) tk rfl (aCons (xVar (pv 11)) aNil)) (aCons (xCall h_depth_of (hr.mono (by omega)) tk rfl (aCons (xVar (pv 9)) aNil)) aNil)))) aNil)))))
      (sCons (sIf (yNot (yVal (xCall h_law_same (hr.mono (by omega)) tk rfl (aCons (xNew (nLst (aCons (xCall h_size_of (hr.mono (by omega)) tk rfl (aCons (xVar (pv 12)) aNil)) (aCons (xCall h_depth_of (hr.mono (by omega)) tk rfl (aCons (xVar (pv 12)) aNil)) aNil)))) (aCons (xVar (pv 13)) aNil))))) (sOne (sRet xBl)) sNil)
      (sCons (sLcSet (i := 14) rfl sc_law.nd rfl rfl (sw_true rfl rfl rfl (by decide +kernel)) (blkOk_by (own := [("_law_part", 6)]) (by kernel_rfl)) (iSeq (xCall h_parts_of (hr.mono (by omega)) tk rfl (aCons (xVar (pv 9)) aNil))) (fun _ _ _ _ _ _ => (gName1 (pg_name (i := 6) sc_law.nd rfl (by first | exact Or.inl rfl | exact Or.inr rfl)) (by decide))) (fun _ _ _ _ _ _ => (tOneD (yCmpD (oNotIn (hu65 hr) rfl) (xVar (pv 6)) (xCall h_parts_of (hr.mono (by omega)) takes0 rfl (aCons (xVar (pv 11)) aNil))))) (fun _ _ _ _ _ _ => (xVar (pv 6))))
      (sOne (sRet (xCall h_law_same (hr.mono (by omega)) tk rfl (aCons (xCall h_parts_of (hr.mono (by omega)) tk rfl (aCons (xVar (pv 12)) aNil)) (aCons (xOpD oAdd (xOpD oAdd (xNew (nLst (aCons (xVar (pv 12)) aNil))) (xCall h_parts_of (hr.mono (by omega)) tk rfl (aCons (xVar (pv 11)) aNil))) (xVar (pv 14))) aNil))))))))))))))))))))
  refine ⟨_, pss_cons (ps_set (i := 1) sc_law.nd rfl (by first | exact Or.inl rfl | exact Or.inr rfl) (pe_call GB (hr.mono (by decide)) rfl T.g_law_bag kB bB .nil passL (pa_cons (pv 0) pa_nil))) (pss_ex fun g : (Addr × Addr) × Hp => body g.1.1 g.1.2 g.2), ?_⟩
  refine ⟨_, rfl, a, ns, rfl, hS, fun B H1 hsame hnb hnl hbag => ⟨((B.b, B.l), H1), _, _, ?_, ok, fun _ h => h.elim, fun d hd v H' _ i _ => ?_, fun _ h => h.elim, fun _ h => h.elim, fun _ _ h => h.elim⟩⟩
  · have no : ∀ (i : Nat) (d : D), (none :: some (.val .bag) :: List.replicate 14 none : Rho)[i]? ≠ some (some (.own d)) := fun i d h => by
      rcases i with _ | _ | i
      · cases h
      · cases h
      · have h2 : (List.replicate 14 (none : Option Sl))[i]? = some (some (.own d)) := h
        rw [List.getElem?_replicate] at h2
        split at h2 <;> cases h2
    obtain ⟨nlb, ns', i, r, k, sd, e1, e2, z⟩ := id hbag
    refine ⟨Ex.refl _ _, rfl, .inl rfl, .inr rfl, fun c z => ?_, fun i d h => ?_, fun i d h => absurd h (no i d), fun i j d e a h => absurd h (no i d), fun p hp => nomatch hp⟩
    · rcases z with z | z
      · rw [z, e1]; simp
      · rw [z, e2]; simp
    · rcases i with _ | _ | i
      · cases h
      · cases h
        exact ⟨_, rfl, .bag hbag (.inl (.inl rfl))⟩
      · have h2 : (List.replicate 14 (none : Option Sl))[i]? = some (some (.val d)) := h
        rw [List.getElem?_replicate] at h2
        split at h2 <;> cases h2
  · subst hd
    cases i
    exact kq H'

end
end K06
namespace K06
open PySem PySem.Spec PyProof.Rows L2 HD
def D_is_name : He.DefD := ⟨("is_name", none), "is_name", "is_name", defArgs s_is_name, defBody s_is_name, defScope s_is_name, [], []⟩
def D_is_name_dict : He.DefD := ⟨("is_name_dict", none), "is_name_dict", "is_name_dict", defArgs s_is_name_dict, defBody s_is_name_dict, defScope s_is_name_dict, [], []⟩
def D_is_leaf : He.DefD := ⟨("is_leaf", none), "is_leaf", "is_leaf", defArgs s_is_leaf, defBody s_is_leaf, defScope s_is_leaf, [], []⟩
def D_measure : He.DefD := ⟨("measure", none), "measure", "measure", defArgs s_measure, defBody s_measure, defScope s_measure, [], []⟩
def D_has_form : He.DefD := ⟨("has_form", none), "has_form", "has_form", defArgs s_has_form, defBody s_has_form, defScope s_has_form, [], []⟩
def D_is_term : He.DefD := ⟨("is_term", none), "is_term", "is_term", defArgs s_is_term, defBody s_is_term, defScope s_is_term, [], []⟩
def D_check_term : He.DefD := ⟨("check_term", none), "check_term", "check_term", defArgs s_check_term, defBody s_check_term, defScope s_check_term, [], []⟩
def D_leaves : He.DefD := ⟨("leaves", none), "leaves", "leaves", defArgs s_leaves, defBody s_leaves, defScope s_leaves, [], []⟩
def D_names_of : He.DefD := ⟨("names_of", none), "names_of", "names_of", defArgs s_names_of, defBody s_names_of, defScope s_names_of, [], []⟩
def D_all_parts : He.DefD := ⟨("all_parts", none), "all_parts", "all_parts", defArgs s_all_parts, defBody s_all_parts, defScope s_all_parts, [], []⟩
def D_parts_of : He.DefD := ⟨("parts_of", none), "parts_of", "parts_of", defArgs s_parts_of, defBody s_parts_of, defScope s_parts_of, [], []⟩
def D_size_of : He.DefD := ⟨("size_of", none), "size_of", "size_of", defArgs s_size_of, defBody s_size_of, defScope s_size_of, [], []⟩
def D_depth_of : He.DefD := ⟨("depth_of", none), "depth_of", "depth_of", defArgs s_depth_of, defBody s_depth_of, defScope s_depth_of, [], []⟩
def D_replaced : He.DefD := ⟨("replaced", none), "replaced", "replaced", defArgs s_replaced, defBody s_replaced, defScope s_replaced, [], []⟩
def D_renamed : He.DefD := ⟨("renamed", none), "renamed", "renamed", defArgs s_renamed, defBody s_renamed, defScope s_renamed, [], []⟩
def D_spelled : He.DefD := ⟨("spelled", none), "spelled", "spelled", defArgs s_spelled, defBody s_spelled, defScope s_spelled, [], []⟩
def D_worded : He.DefD := ⟨("worded", none), "worded", "worded", defArgs s_worded, defBody s_worded, defScope s_worded, [], []⟩
def D_word_end : He.DefD := ⟨("word_end", none), "word_end", "word_end", defArgs s_word_end, defBody s_word_end, defScope s_word_end, [], []⟩
def D_leaf_at : He.DefD := ⟨("leaf_at", none), "leaf_at", "leaf_at", defArgs s_leaf_at, defBody s_leaf_at, defScope s_leaf_at, [], []⟩
def D_behind : He.DefD := ⟨("behind", none), "behind", "behind", defArgs s_behind, defBody s_behind, defScope s_behind, [], []⟩
def D_round_at : He.DefD := ⟨("round_at", none), "round_at", "round_at", defArgs s_round_at, defBody s_round_at, defScope s_round_at, [], []⟩
def D_box_at : He.DefD := ⟨("box_at", none), "box_at", "box_at", defArgs s_box_at, defBody s_box_at, defScope s_box_at, [], []⟩
def D_shut_at : He.DefD := ⟨("shut_at", none), "shut_at", "shut_at", defArgs s_shut_at, defBody s_shut_at, defScope s_shut_at, [], []⟩
def D_word_at : He.DefD := ⟨("word_at", none), "word_at", "word_at", defArgs s_word_at, defBody s_word_at, defScope s_word_at, [], []⟩
def D_term_at : He.DefD := ⟨("term_at", none), "term_at", "term_at", defArgs s_term_at, defBody s_term_at, defScope s_term_at, [], []⟩
def D_read_any : He.DefD := ⟨("read_any", none), "read_any", "read_any", defArgs s_read_any, defBody s_read_any, defScope s_read_any, [], []⟩
def D_read_term : He.DefD := ⟨("read_term", none), "read_term", "read_term", defArgs s_read_term, defBody s_read_term, defScope s_read_term, [], []⟩
def D_law_bag : He.DefD := ⟨("_law_bag", none), "_law_bag", "_law_bag", defArgs s_law_bag, defBody s_law_bag, defScope s_law_bag, [], []⟩
def D_law_draw : He.DefD := ⟨("_law_draw", none), "_law_draw", "_law_draw", defArgs s_law_draw, defBody s_law_draw, defScope s_law_draw, [], []⟩
def D_law_same : He.DefD := ⟨("_law_same", none), "_law_same", "_law_same", defArgs s_law_same, defBody s_law_same, defScope s_law_same, [], []⟩
def D_law_names : He.DefD := ⟨("_law_names", none), "_law_names", "_law_names", defArgs s_law_names, defBody s_law_names, defScope s_law_names, [], []⟩
def D_law_pick : He.DefD := ⟨("_law_pick", none), "_law_pick", "_law_pick", defArgs s_law_pick, defBody s_law_pick, defScope s_law_pick, [], []⟩
def D_law_leaf : He.DefD := ⟨("_law_leaf", none), "_law_leaf", "_law_leaf", defArgs s_law_leaf, defBody s_law_leaf, defScope s_law_leaf, [], []⟩
def D_law_pattern : He.DefD := ⟨("_law_pattern", none), "_law_pattern", "_law_pattern", defArgs s_law_pattern, defBody s_law_pattern, defScope s_law_pattern, [], []⟩
def D_law_term : He.DefD := ⟨("_law_term", none), "_law_term", "_law_term", defArgs s_law_term, defBody s_law_term, defScope s_law_term, [], []⟩
def D_law : He.DefD := ⟨("law", none), "law", "law", defArgs s_law, defBody s_law, defScope s_law, [], []⟩
def fn : List He.DefD := [D_is_name, D_is_name_dict, D_is_leaf, D_measure, D_has_form, D_is_term, D_check_term, D_leaves, D_names_of, D_all_parts, D_parts_of, D_size_of, D_depth_of, D_replaced, D_renamed, D_spelled, D_worded, D_word_end, D_leaf_at, D_behind, D_round_at, D_box_at, D_shut_at, D_word_at, D_term_at, D_read_any, D_read_term, D_law_bag, D_law_draw, D_law_same, D_law_names, D_law_pick, D_law_leaf, D_law_pattern, D_law_term, D_law]
def fa : List He.Fa := [.glo "is_name", .glo "is_name_dict", .glo "is_leaf", .glo "measure", .glo "has_form", .glo "is_term", .glo "check_term", .glo "leaves", .glo "names_of", .glo "all_parts", .glo "parts_of", .glo "size_of", .glo "depth_of", .glo "replaced", .glo "renamed", .glo "spelled", .glo "worded", .glo "word_end", .glo "leaf_at", .glo "behind", .glo "round_at", .glo "box_at", .glo "shut_at", .glo "word_at", .glo "term_at", .glo "read_any", .glo "read_term", .glo "_law_bag", .glo "_law_draw", .glo "_law_same", .glo "_law_names", .glo "_law_pick", .glo "_law_leaf", .glo "_law_pattern", .glo "_law_term", .glo "law", .free "all", .free "bool", .free "dict", .free "int", .free "isinstance", .free "len", .free "list", .free "max", .free "range", .free "set", .free "sorted", .free "str", .free "sum", .free "super", .free "tuple", .str "AND" " & ", .str "BOX" "box", .str "HALF" "half", .str "MARK" "mark", .str "MIX" "mix", .int "MOST_DEPTH" 12, .int "MOST_LETTERS" 8, .int "MOST_NAMES" 40, .str "PAIR" "pair", .str "SHUT" "shut", .str "SMALL" "abcdefghijklmnopqrstuvwxyz", .str "VAR" "var", .glo "NAMED", .glo "LENGTHS", .glo "BadTerm", .glo "BadNames", .glo "BadText", .noat "BadTerm" "value", .noat "BadNames" "value", .noat "BadText" "at"]
def ts : List He.Tab := [(fun K => He.ga K "LENGTHS", ["pair", "box", "half", "shut", "mark", "mix"])]
def ex (K : PySem.W.Frag) : Bool := (He.tupB K "NAMED" [.str "half", .str "shut", .str "mark"] && (tabB [("pair", 3), ("box", 3), ("half", 2), ("shut", 3), ("mark", 3), ("mix", 2)] (He.ga K "LENGTHS") K && (supB PySem.Challenge.rw_sealedtalk_k06_whole_terms_and_wordings.prog K (He.ga K "BadTerm") (iniOf K "BadTerm") (fldOf "BadTerm") && (supB PySem.Challenge.rw_sealedtalk_k06_whole_terms_and_wordings.prog K (He.ga K "BadNames") (iniOf K "BadNames") (fldOf "BadNames") && supB PySem.Challenge.rw_sealedtalk_k06_whole_terms_and_wordings.prog K (He.ga K "BadText") (iniOf K "BadText") (fldOf "BadText")))))
abbrev R : PySem.W.OpenRow := PySem.W.OpenLaw.row PySem.Challenge.rw_sealedtalk_k06_whole_terms_and_wordings
def es : List Str := ["BadTerm", "BadNames", "BadText"]
def sv_BadTerm : FnS := supV "value" "BadTerm.__init__" [⟨16, 8, 16, 13⟩, ⟨16, 8, 16, 15⟩, ⟨16, 8, 16, 24⟩, ⟨16, 25, 16, 30⟩, ⟨16, 8, 16, 31⟩, ⟨16, 8, 16, 31⟩, ⟨17, 8, 17, 12⟩, ⟨17, 8, 17, 18⟩, ⟨17, 21, 17, 26⟩, ⟨17, 8, 17, 26⟩] ⟨15, 17, 15, 21⟩ ⟨15, 23, 15, 28⟩
theorem sw_BadTerm : supV (fldOf "BadTerm") "BadTerm.__init__" [⟨16, 8, 16, 13⟩, ⟨16, 8, 16, 15⟩, ⟨16, 8, 16, 24⟩, ⟨16, 25, 16, 30⟩, ⟨16, 8, 16, 31⟩, ⟨16, 8, 16, 31⟩, ⟨17, 8, 17, 12⟩, ⟨17, 8, 17, 18⟩, ⟨17, 21, 17, 26⟩, ⟨17, 8, 17, 26⟩] ⟨15, 17, 15, 21⟩ ⟨15, 23, 15, 28⟩ = sv_BadTerm := by
  have z : fldOf "BadTerm" = "value" := by decide +kernel
  rw [z]
  rfl
def sv_BadNames : FnS := supV "value" "BadNames.__init__" [⟨21, 8, 21, 13⟩, ⟨21, 8, 21, 15⟩, ⟨21, 8, 21, 24⟩, ⟨21, 25, 21, 30⟩, ⟨21, 8, 21, 31⟩, ⟨21, 8, 21, 31⟩, ⟨22, 8, 22, 12⟩, ⟨22, 8, 22, 18⟩, ⟨22, 21, 22, 26⟩, ⟨22, 8, 22, 26⟩] ⟨20, 17, 20, 21⟩ ⟨20, 23, 20, 28⟩
theorem sw_BadNames : supV (fldOf "BadNames") "BadNames.__init__" [⟨21, 8, 21, 13⟩, ⟨21, 8, 21, 15⟩, ⟨21, 8, 21, 24⟩, ⟨21, 25, 21, 30⟩, ⟨21, 8, 21, 31⟩, ⟨21, 8, 21, 31⟩, ⟨22, 8, 22, 12⟩, ⟨22, 8, 22, 18⟩, ⟨22, 21, 22, 26⟩, ⟨22, 8, 22, 26⟩] ⟨20, 17, 20, 21⟩ ⟨20, 23, 20, 28⟩ = sv_BadNames := by
  have z : fldOf "BadNames" = "value" := by decide +kernel
  rw [z]
  rfl
def sv_BadText : FnS := supV "at" "BadText.__init__" [⟨26, 8, 26, 13⟩, ⟨26, 8, 26, 15⟩, ⟨26, 8, 26, 24⟩, ⟨26, 25, 26, 27⟩, ⟨26, 8, 26, 28⟩, ⟨26, 8, 26, 28⟩, ⟨27, 8, 27, 12⟩, ⟨27, 8, 27, 15⟩, ⟨27, 18, 27, 20⟩, ⟨27, 8, 27, 20⟩] ⟨25, 17, 25, 21⟩ ⟨25, 23, 25, 25⟩
theorem sw_BadText : supV (fldOf "BadText") "BadText.__init__" [⟨26, 8, 26, 13⟩, ⟨26, 8, 26, 15⟩, ⟨26, 8, 26, 24⟩, ⟨26, 25, 26, 27⟩, ⟨26, 8, 26, 28⟩, ⟨26, 8, 26, 28⟩, ⟨27, 8, 27, 12⟩, ⟨27, 8, 27, 15⟩, ⟨27, 18, 27, 20⟩, ⟨27, 8, 27, 20⟩] ⟨25, 17, 25, 21⟩ ⟨25, 23, 25, 25⟩ = sv_BadText := by
  have z : fldOf "BadText" = "at" := by decide +kernel
  rw [z]
  rfl
def ev : List FnS := [sv_BadTerm, sv_BadNames, sv_BadText]
abbrev hk : PySem.W.Hook := yHook 5 fa fn ts es ev ex
def ob (s : PySem.W.SharedT) : AlY := yObs 5 fa fn ts es ex (HandSHeadRun.getT s)
theorem ob_eq (s : PySem.W.SharedT) : ob s = hk.obs s.abs := yObs_eq (ev := ev) (HandSHeadRun.getT_eq s)
def nm0 : List PySem.Str := ["SMALL", "MOST_LETTERS", "is_name", "is_name_dict", "TalkError", "BadTerm", "BadNames", "BadText", "PAIR", "BOX", "HALF", "SHUT"]
def nm1 : List PySem.Str := ["MARK", "MIX", "VAR", "LENGTHS", "NAMED", "MOST_NAMES", "MOST_DEPTH", "is_leaf", "measure", "has_form", "is_term", "check_term"]
def nm2 : List PySem.Str := ["leaves", "names_of", "all_parts", "parts_of", "size_of", "depth_of", "replaced", "renamed", "AND", "spelled", "worded", "word_end"]
def nm3 : List PySem.Str := ["leaf_at", "behind", "round_at", "box_at", "shut_at", "word_at", "term_at", "read_any", "read_term", "_law_bag", "_law_draw", "_law_same"]
def nm4 : List PySem.Str := ["_law_names", "_law_pick", "_law_leaf", "_law_pattern", "_law_term"]
def names : List PySem.Str := nm0 ++ nm1 ++ nm2 ++ nm3 ++ nm4
theorem runF (w : World) : HandSHeadRun.RunEq R (PySem.W.view R.prog [58]) hk ob 4000 names (w.withFollow "special-get-raises" false) := by
  intro os
  kernel_rfl
theorem runT (w : World) : HandSHeadRun.RunEq R (PySem.W.view R.prog [58]) hk ob 4000 names (w.withFollow "special-get-raises" true) := by
  intro os
  kernel_rfl
theorem run (w : World) : HandSHeadRun.RunEq R (PySem.W.view R.prog [58]) hk ob 4000 names w := PySem.W.byRow2 "special-get-raises" (P := fun w => HandSHeadRun.RunEq R (PySem.W.view R.prog [58]) hk ob 4000 names w) runF runT w
theorem top_of {w : World} {K : PySem.W.Frag} {h : Heap} {mg : Str → Option Value} (X : K.In h) (G : h.Ns mainGlobals mg) (Y : SaysY fa fn ts es ev ex w K) : Top PySem.Challenge.rw_sealedtalk_k06_whole_terms_and_wordings.prog w K mg := by
  have c := Y.1
  have e := Y.2.2
  obtain ⟨e0, r0⟩ := He.ba e
  obtain ⟨e1, r1⟩ := He.ba r0
  obtain ⟨e2, r2⟩ := He.ba r1
  obtain ⟨e3, e4⟩ := He.ba r2
  exact {
    d_is_name := c.d.def_ 0 (d := D_is_name) rfl
    g_is_name := He.glo_ok X G (c.d.fact 0 (f := .glo "is_name") rfl)
    d_is_name_dict := c.d.def_ 1 (d := D_is_name_dict) rfl
    g_is_name_dict := He.glo_ok X G (c.d.fact 1 (f := .glo "is_name_dict") rfl)
    d_is_leaf := c.d.def_ 2 (d := D_is_leaf) rfl
    g_is_leaf := He.glo_ok X G (c.d.fact 2 (f := .glo "is_leaf") rfl)
    d_measure := c.d.def_ 3 (d := D_measure) rfl
    g_measure := He.glo_ok X G (c.d.fact 3 (f := .glo "measure") rfl)
    d_has_form := c.d.def_ 4 (d := D_has_form) rfl
    g_has_form := He.glo_ok X G (c.d.fact 4 (f := .glo "has_form") rfl)
    d_is_term := c.d.def_ 5 (d := D_is_term) rfl
    g_is_term := He.glo_ok X G (c.d.fact 5 (f := .glo "is_term") rfl)
    d_check_term := c.d.def_ 6 (d := D_check_term) rfl
    g_check_term := He.glo_ok X G (c.d.fact 6 (f := .glo "check_term") rfl)
    d_leaves := c.d.def_ 7 (d := D_leaves) rfl
    g_leaves := He.glo_ok X G (c.d.fact 7 (f := .glo "leaves") rfl)
    d_names_of := c.d.def_ 8 (d := D_names_of) rfl
    g_names_of := He.glo_ok X G (c.d.fact 8 (f := .glo "names_of") rfl)
    d_all_parts := c.d.def_ 9 (d := D_all_parts) rfl
    g_all_parts := He.glo_ok X G (c.d.fact 9 (f := .glo "all_parts") rfl)
    d_parts_of := c.d.def_ 10 (d := D_parts_of) rfl
    g_parts_of := He.glo_ok X G (c.d.fact 10 (f := .glo "parts_of") rfl)
    d_size_of := c.d.def_ 11 (d := D_size_of) rfl
    g_size_of := He.glo_ok X G (c.d.fact 11 (f := .glo "size_of") rfl)
    d_depth_of := c.d.def_ 12 (d := D_depth_of) rfl
    g_depth_of := He.glo_ok X G (c.d.fact 12 (f := .glo "depth_of") rfl)
    d_replaced := c.d.def_ 13 (d := D_replaced) rfl
    g_replaced := He.glo_ok X G (c.d.fact 13 (f := .glo "replaced") rfl)
    d_renamed := c.d.def_ 14 (d := D_renamed) rfl
    g_renamed := He.glo_ok X G (c.d.fact 14 (f := .glo "renamed") rfl)
    d_spelled := c.d.def_ 15 (d := D_spelled) rfl
    g_spelled := He.glo_ok X G (c.d.fact 15 (f := .glo "spelled") rfl)
    d_worded := c.d.def_ 16 (d := D_worded) rfl
    g_worded := He.glo_ok X G (c.d.fact 16 (f := .glo "worded") rfl)
    d_word_end := c.d.def_ 17 (d := D_word_end) rfl
    g_word_end := He.glo_ok X G (c.d.fact 17 (f := .glo "word_end") rfl)
    d_leaf_at := c.d.def_ 18 (d := D_leaf_at) rfl
    g_leaf_at := He.glo_ok X G (c.d.fact 18 (f := .glo "leaf_at") rfl)
    d_behind := c.d.def_ 19 (d := D_behind) rfl
    g_behind := He.glo_ok X G (c.d.fact 19 (f := .glo "behind") rfl)
    d_round_at := c.d.def_ 20 (d := D_round_at) rfl
    g_round_at := He.glo_ok X G (c.d.fact 20 (f := .glo "round_at") rfl)
    d_box_at := c.d.def_ 21 (d := D_box_at) rfl
    g_box_at := He.glo_ok X G (c.d.fact 21 (f := .glo "box_at") rfl)
    d_shut_at := c.d.def_ 22 (d := D_shut_at) rfl
    g_shut_at := He.glo_ok X G (c.d.fact 22 (f := .glo "shut_at") rfl)
    d_word_at := c.d.def_ 23 (d := D_word_at) rfl
    g_word_at := He.glo_ok X G (c.d.fact 23 (f := .glo "word_at") rfl)
    d_term_at := c.d.def_ 24 (d := D_term_at) rfl
    g_term_at := He.glo_ok X G (c.d.fact 24 (f := .glo "term_at") rfl)
    d_read_any := c.d.def_ 25 (d := D_read_any) rfl
    g_read_any := He.glo_ok X G (c.d.fact 25 (f := .glo "read_any") rfl)
    d_read_term := c.d.def_ 26 (d := D_read_term) rfl
    g_read_term := He.glo_ok X G (c.d.fact 26 (f := .glo "read_term") rfl)
    d_law_bag := c.d.def_ 27 (d := D_law_bag) rfl
    g_law_bag := He.glo_ok X G (c.d.fact 27 (f := .glo "_law_bag") rfl)
    d_law_draw := c.d.def_ 28 (d := D_law_draw) rfl
    g_law_draw := He.glo_ok X G (c.d.fact 28 (f := .glo "_law_draw") rfl)
    d_law_same := c.d.def_ 29 (d := D_law_same) rfl
    g_law_same := He.glo_ok X G (c.d.fact 29 (f := .glo "_law_same") rfl)
    d_law_names := c.d.def_ 30 (d := D_law_names) rfl
    g_law_names := He.glo_ok X G (c.d.fact 30 (f := .glo "_law_names") rfl)
    d_law_pick := c.d.def_ 31 (d := D_law_pick) rfl
    g_law_pick := He.glo_ok X G (c.d.fact 31 (f := .glo "_law_pick") rfl)
    d_law_leaf := c.d.def_ 32 (d := D_law_leaf) rfl
    g_law_leaf := He.glo_ok X G (c.d.fact 32 (f := .glo "_law_leaf") rfl)
    d_law_pattern := c.d.def_ 33 (d := D_law_pattern) rfl
    g_law_pattern := He.glo_ok X G (c.d.fact 33 (f := .glo "_law_pattern") rfl)
    d_law_term := c.d.def_ 34 (d := D_law_term) rfl
    g_law_term := He.glo_ok X G (c.d.fact 34 (f := .glo "_law_term") rfl)
    d_law := c.d.def_ 35 (d := D_law) rfl
    g_law := He.glo_ok X G (c.d.fact 35 (f := .glo "law") rfl)
    n_all := He.free_ok X G (c.d.fact 36 (f := .free "all") rfl)
    n_bool := He.free_ok X G (c.d.fact 37 (f := .free "bool") rfl)
    n_dict := He.free_ok X G (c.d.fact 38 (f := .free "dict") rfl)
    n_int := He.free_ok X G (c.d.fact 39 (f := .free "int") rfl)
    n_isinstance := He.free_ok X G (c.d.fact 40 (f := .free "isinstance") rfl)
    n_len := He.free_ok X G (c.d.fact 41 (f := .free "len") rfl)
    n_list := He.free_ok X G (c.d.fact 42 (f := .free "list") rfl)
    n_max := He.free_ok X G (c.d.fact 43 (f := .free "max") rfl)
    n_range := He.free_ok X G (c.d.fact 44 (f := .free "range") rfl)
    n_set := He.free_ok X G (c.d.fact 45 (f := .free "set") rfl)
    n_sorted := He.free_ok X G (c.d.fact 46 (f := .free "sorted") rfl)
    n_str := He.free_ok X G (c.d.fact 47 (f := .free "str") rfl)
    n_sum := He.free_ok X G (c.d.fact 48 (f := .free "sum") rfl)
    n_super := He.free_ok X G (c.d.fact 49 (f := .free "super") rfl)
    n_tuple := He.free_ok X G (c.d.fact 50 (f := .free "tuple") rfl)
    c_AND := He.str_ok X G (c.d.fact 51 (f := .str "AND" " & ") rfl)
    c_BOX := He.str_ok X G (c.d.fact 52 (f := .str "BOX" "box") rfl)
    c_HALF := He.str_ok X G (c.d.fact 53 (f := .str "HALF" "half") rfl)
    c_MARK := He.str_ok X G (c.d.fact 54 (f := .str "MARK" "mark") rfl)
    c_MIX := He.str_ok X G (c.d.fact 55 (f := .str "MIX" "mix") rfl)
    c_MOST_DEPTH := He.int_ok X G (c.d.fact 56 (f := .int "MOST_DEPTH" 12) rfl)
    c_MOST_LETTERS := He.int_ok X G (c.d.fact 57 (f := .int "MOST_LETTERS" 8) rfl)
    c_MOST_NAMES := He.int_ok X G (c.d.fact 58 (f := .int "MOST_NAMES" 40) rfl)
    c_PAIR := He.str_ok X G (c.d.fact 59 (f := .str "PAIR" "pair") rfl)
    c_SHUT := He.str_ok X G (c.d.fact 60 (f := .str "SHUT" "shut") rfl)
    c_SMALL := He.str_ok X G (c.d.fact 61 (f := .str "SMALL" "abcdefghijklmnopqrstuvwxyz") rfl)
    c_VAR := He.str_ok X G (c.d.fact 62 (f := .str "VAR" "var") rfl)
    g_NAMED := He.glo_ok X G (c.d.fact 63 (f := .glo "NAMED") rfl)
    u_NAMED := fun H => He.tupB_ok (vs := [.str "half", .str "shut", .str "mark"]) e0 H
    g_LENGTHS := He.glo_ok X G (c.d.fact 64 (f := .glo "LENGTHS") rfl)
    b_LENGTHS := fun {Y} hK hw => by
        subst hK hw
        exact tabB_at (c.tab 0 rfl) e1
    m_super := rfl
    g_BadTerm := He.glo_ok X G (c.d.fact 65 (f := .glo "BadTerm") rfl)
    g_BadNames := He.glo_ok X G (c.d.fact 66 (f := .glo "BadNames") rfl)
    g_BadText := He.glo_ok X G (c.d.fact 67 (f := .glo "BadText") rfl)
    s_BadTerm := (supB_ok (p := [⟨16, 8, 16, 13⟩, ⟨16, 8, 16, 15⟩, ⟨16, 8, 16, 24⟩, ⟨16, 25, 16, 30⟩, ⟨16, 8, 16, 31⟩, ⟨16, 8, 16, 31⟩, ⟨17, 8, 17, 12⟩, ⟨17, 8, 17, 18⟩, ⟨17, 21, 17, 26⟩, ⟨17, 8, 17, 26⟩]) (p1 := ⟨15, 17, 15, 21⟩) (p2 := ⟨15, 23, 15, 28⟩) (qual := "BadTerm.__init__") e2 rfl (sw_BadTerm.symm ▸ Y.ini (x := "BadTerm") (v := sv_BadTerm) 0)).1
    x_BadTerm := (supB_ok (p := [⟨16, 8, 16, 13⟩, ⟨16, 8, 16, 15⟩, ⟨16, 8, 16, 24⟩, ⟨16, 25, 16, 30⟩, ⟨16, 8, 16, 31⟩, ⟨16, 8, 16, 31⟩, ⟨17, 8, 17, 12⟩, ⟨17, 8, 17, 18⟩, ⟨17, 21, 17, 26⟩, ⟨17, 8, 17, 26⟩]) (p1 := ⟨15, 17, 15, 21⟩) (p2 := ⟨15, 23, 15, 28⟩) (qual := "BadTerm.__init__") e2 rfl (sw_BadTerm.symm ▸ Y.ini (x := "BadTerm") (v := sv_BadTerm) 0)).2
    o_BadTerm := He.noat_ok (c.d.fact 68 (f := .noat "BadTerm" "value") rfl)
    f_BadTerm := by decide +kernel
    s_BadNames := (supB_ok (p := [⟨21, 8, 21, 13⟩, ⟨21, 8, 21, 15⟩, ⟨21, 8, 21, 24⟩, ⟨21, 25, 21, 30⟩, ⟨21, 8, 21, 31⟩, ⟨21, 8, 21, 31⟩, ⟨22, 8, 22, 12⟩, ⟨22, 8, 22, 18⟩, ⟨22, 21, 22, 26⟩, ⟨22, 8, 22, 26⟩]) (p1 := ⟨20, 17, 20, 21⟩) (p2 := ⟨20, 23, 20, 28⟩) (qual := "BadNames.__init__") e3 rfl (sw_BadNames.symm ▸ Y.ini (x := "BadNames") (v := sv_BadNames) 1)).1
    x_BadNames := (supB_ok (p := [⟨21, 8, 21, 13⟩, ⟨21, 8, 21, 15⟩, ⟨21, 8, 21, 24⟩, ⟨21, 25, 21, 30⟩, ⟨21, 8, 21, 31⟩, ⟨21, 8, 21, 31⟩, ⟨22, 8, 22, 12⟩, ⟨22, 8, 22, 18⟩, ⟨22, 21, 22, 26⟩, ⟨22, 8, 22, 26⟩]) (p1 := ⟨20, 17, 20, 21⟩) (p2 := ⟨20, 23, 20, 28⟩) (qual := "BadNames.__init__") e3 rfl (sw_BadNames.symm ▸ Y.ini (x := "BadNames") (v := sv_BadNames) 1)).2
    o_BadNames := He.noat_ok (c.d.fact 69 (f := .noat "BadNames" "value") rfl)
    f_BadNames := by decide +kernel
    s_BadText := (supB_ok (p := [⟨26, 8, 26, 13⟩, ⟨26, 8, 26, 15⟩, ⟨26, 8, 26, 24⟩, ⟨26, 25, 26, 27⟩, ⟨26, 8, 26, 28⟩, ⟨26, 8, 26, 28⟩, ⟨27, 8, 27, 12⟩, ⟨27, 8, 27, 15⟩, ⟨27, 18, 27, 20⟩, ⟨27, 8, 27, 20⟩]) (p1 := ⟨25, 17, 25, 21⟩) (p2 := ⟨25, 23, 25, 25⟩) (qual := "BadText.__init__") e4 rfl (sw_BadText.symm ▸ Y.ini (x := "BadText") (v := sv_BadText) 2)).1
    x_BadText := (supB_ok (p := [⟨26, 8, 26, 13⟩, ⟨26, 8, 26, 15⟩, ⟨26, 8, 26, 24⟩, ⟨26, 25, 26, 27⟩, ⟨26, 8, 26, 28⟩, ⟨26, 8, 26, 28⟩, ⟨27, 8, 27, 12⟩, ⟨27, 8, 27, 15⟩, ⟨27, 18, 27, 20⟩, ⟨27, 8, 27, 20⟩]) (p1 := ⟨25, 17, 25, 21⟩) (p2 := ⟨25, 23, 25, 25⟩) (qual := "BadText.__init__") e4 rfl (sw_BadText.symm ▸ Y.ini (x := "BadText") (v := sv_BadText) 2)).2
    o_BadText := He.noat_ok (c.d.fact 70 (f := .noat "BadText" "at") rfl)
    f_BadText := by decide +kernel
  }
end K06
section
open HD
local macro_rules
  | `(tactic| simp_arith [$xs,*]) => `(tactic| try simp only [e_seq, e_next, e_ret, e_retN, e_if, e_asg, e_own, e_drop, e_c, e_var0, e_varS, e_op, e_test, e_and, e_or, e_not, e_andV, e_orV, e_notV, e_ifE, e_chain, e_nil, e_cons, e_tup, e_lst, e_cb, e_call, e_sl, e_part, e_noPart, e_items, e_rng1, e_lc, e_yes, e_fn, e_rho1, e_rho2, e_rho3, e_rho4, e_isi, e_ints, e_CT, e_lenS, e_lenT, e_lenL, e_addI, e_addS, e_addL, e_int, e_intB, e_ixT, e_ixL, e_ixS, e_at0, e_at1, e_at2, e_slT, e_slL, e_slS, e_tail, e_eqS, e_eqI, e_depS, e_depI, e_isiS, e_isiT, e_isiTT, e_isiTS, e_lcN, e_lcC, e_name, e_repl, e_inT, e_inL, e_inS, e_inTab, e_ixTab, e_is, e_isNot, e_eqv, e_nev, e_starts, D.bl.injEq, D.int.injEq, D.str.injEq, D.tup.injEq, exists_eq_left', exists_eq_left, true_and, and_true, and_self, if_true, if_false, ite_true, ite_false, Bool.false_eq_true, Bool.not_true, Bool.not_false, eq_self, List.set_cons_zero, List.set_cons_succ, List.getElem?_cons_zero, List.getElem?_cons_succ, List.length_cons, List.length_nil, List.replicate_zero, List.map_cons, List.map_nil, List.nil_append, List.cons_append, Nat.reduceAdd, Nat.zero_add, e_noOwn, wipeR, List.all_cons, List.all_nil, List.any_cons, List.any_nil, Bool.and_true, Bool.or_false, Bool.false_or, Bool.and_self, Bool.xor_false, Bool.false_xor, Bool.true_xor, decide_true, Option.some.injEq, e_itT, e_itL, e_itS, e_pl1, e_pl2, e_ty1, e_ty2, e_ok1, e_ok2, e_min, e_one, e_two, e_three, e_nnT, e_nnS, e_fl1, e_fl2, e_fl3, e_starts, e_st2, t_var_pair, t_var_box, t_var_half, t_var_shut, t_var_mark, t_var_mix, t_pair_var, t_pair_box, t_pair_half, t_pair_shut, t_pair_mark, t_pair_mix, t_box_var, t_box_pair, t_box_half, t_box_shut, t_box_mark, t_box_mix, t_half_var, t_half_pair, t_half_box, t_half_shut, t_half_mark, t_half_mix, t_shut_var, t_shut_pair, t_shut_box, t_shut_half, t_shut_mark, t_shut_mix, t_mark_var, t_mark_pair, t_mark_box, t_mark_half, t_mark_shut, t_mark_mix, t_mix_var, t_mix_pair, t_mix_box, t_mix_half, t_mix_shut, t_mix_mark, e_n2, e_n3, Int.reduceNeg, Bool.or_true, i_str_S, i_str_T, i_str_L, i_str_I, i_int_S, i_int_T, i_int_L, i_int_I, i_bool_S, i_bool_T, i_bool_L, i_bool_I, i_list_S, i_list_T, i_list_L, i_list_I, i_tuple_S, i_tuple_T, i_tuple_L, i_tuple_I, i_dict_S, i_dict_T, i_dict_L, i_dict_I, e_ty_int, e_ty_bool, e_ty_list, e_ty_dict, e_isi2, e_pl3, e_pl4, e_eqB, e_depB, e_ok3, e_r2, e_r3, e_r0, e_for, e_i1, e_p2, e_n0, e_n4, e_ln0, e_ln1, Int.reduceEq, Int.reduceLT, Int.reduceLE, decide_false, Option.isSome_some, Option.isSome_none, Bool.or_self, Bool.true_or, ↓reduceIte, e_inD, e_lenD, e_put, e_callD, e_callL, e_lendD, e_lend, e_listO, e_newD, e_frz, e_append, e_opOwn, e_cbOwn, e_dc, e_dcN, e_dcC, e_enum, e_lc2, e_lc2N, e_lc2C, e_own1, e_own2, isOwn, isOwnD, e_neg, e_row1, e_row2, e_itD, e_raise, e_ixO, e_get2, Sl.own.injEq, Sl.val.injEq, D.dct.injEq, D.lst.injEq, exists_eq', e_orR, e_pl5, i_str_D, i_tuple_D, i_list_D, i_dict_D, e_ng, e_ixD, e_pair, e_l0, e_l4, e_l5, e_l6, e_l7, e_l8, e_l9, e_l10, e_nw0, e_nw1, e_nw2, e_insert, e_asgT, e_rev, e_revT, e_sm2, e_pop, e_asgM, e_slmL, e_slmD, e_slmN, e_opAny, e_sldV, e_sldO, e_isB, e_isNotB, e_dct, e_getO, e_getO1, e_get1, e_rget, e_putL, e_minI, e_tupO, e_setOf, e_sortZ, e_lenZ, e_sc, e_dictO, e_fld, e_fldO, e_putF, e_meth, e_prop, e_make, $xs,*])
  | `(tactic| simp_arith [$xs,*] at $h:ident) => `(tactic| try simp only [e_seq, e_next, e_ret, e_retN, e_if, e_asg, e_own, e_drop, e_c, e_var0, e_varS, e_op, e_test, e_and, e_or, e_not, e_andV, e_orV, e_notV, e_ifE, e_chain, e_nil, e_cons, e_tup, e_lst, e_cb, e_call, e_sl, e_part, e_noPart, e_items, e_rng1, e_lc, e_yes, e_fn, e_rho1, e_rho2, e_rho3, e_rho4, e_isi, e_ints, e_CT, e_lenS, e_lenT, e_lenL, e_addI, e_addS, e_addL, e_int, e_intB, e_ixT, e_ixL, e_ixS, e_at0, e_at1, e_at2, e_slT, e_slL, e_slS, e_tail, e_eqS, e_eqI, e_depS, e_depI, e_isiS, e_isiT, e_isiTT, e_isiTS, e_lcN, e_lcC, e_name, e_repl, e_inT, e_inL, e_inS, e_inTab, e_ixTab, e_is, e_isNot, e_eqv, e_nev, e_starts, D.bl.injEq, D.int.injEq, D.str.injEq, D.tup.injEq, exists_eq_left', exists_eq_left, true_and, and_true, and_self, if_true, if_false, ite_true, ite_false, Bool.false_eq_true, Bool.not_true, Bool.not_false, eq_self, List.set_cons_zero, List.set_cons_succ, List.getElem?_cons_zero, List.getElem?_cons_succ, List.length_cons, List.length_nil, List.replicate_zero, List.map_cons, List.map_nil, List.nil_append, List.cons_append, Nat.reduceAdd, Nat.zero_add, e_noOwn, wipeR, List.all_cons, List.all_nil, List.any_cons, List.any_nil, Bool.and_true, Bool.or_false, Bool.false_or, Bool.and_self, Bool.xor_false, Bool.false_xor, Bool.true_xor, decide_true, Option.some.injEq, e_itT, e_itL, e_itS, e_pl1, e_pl2, e_ty1, e_ty2, e_ok1, e_ok2, e_min, e_one, e_two, e_three, e_nnT, e_nnS, e_fl1, e_fl2, e_fl3, e_starts, e_st2, t_var_pair, t_var_box, t_var_half, t_var_shut, t_var_mark, t_var_mix, t_pair_var, t_pair_box, t_pair_half, t_pair_shut, t_pair_mark, t_pair_mix, t_box_var, t_box_pair, t_box_half, t_box_shut, t_box_mark, t_box_mix, t_half_var, t_half_pair, t_half_box, t_half_shut, t_half_mark, t_half_mix, t_shut_var, t_shut_pair, t_shut_box, t_shut_half, t_shut_mark, t_shut_mix, t_mark_var, t_mark_pair, t_mark_box, t_mark_half, t_mark_shut, t_mark_mix, t_mix_var, t_mix_pair, t_mix_box, t_mix_half, t_mix_shut, t_mix_mark, e_n2, e_n3, Int.reduceNeg, Bool.or_true, i_str_S, i_str_T, i_str_L, i_str_I, i_int_S, i_int_T, i_int_L, i_int_I, i_bool_S, i_bool_T, i_bool_L, i_bool_I, i_list_S, i_list_T, i_list_L, i_list_I, i_tuple_S, i_tuple_T, i_tuple_L, i_tuple_I, i_dict_S, i_dict_T, i_dict_L, i_dict_I, e_ty_int, e_ty_bool, e_ty_list, e_ty_dict, e_isi2, e_pl3, e_pl4, e_eqB, e_depB, e_ok3, e_r2, e_r3, e_r0, e_for, e_i1, e_p2, e_n0, e_n4, e_ln0, e_ln1, Int.reduceEq, Int.reduceLT, Int.reduceLE, decide_false, Option.isSome_some, Option.isSome_none, Bool.or_self, Bool.true_or, ↓reduceIte, e_inD, e_lenD, e_put, e_callD, e_callL, e_lendD, e_lend, e_listO, e_newD, e_frz, e_append, e_opOwn, e_cbOwn, e_dc, e_dcN, e_dcC, e_enum, e_lc2, e_lc2N, e_lc2C, e_own1, e_own2, isOwn, isOwnD, e_neg, e_row1, e_row2, e_itD, e_raise, e_ixO, e_get2, Sl.own.injEq, Sl.val.injEq, D.dct.injEq, D.lst.injEq, exists_eq', e_orR, e_pl5, i_str_D, i_tuple_D, i_list_D, i_dict_D, e_ng, e_ixD, e_pair, e_l0, e_l4, e_l5, e_l6, e_l7, e_l8, e_l9, e_l10, e_nw0, e_nw1, e_nw2, e_insert, e_asgT, e_rev, e_revT, e_sm2, e_pop, e_asgM, e_slmL, e_slmD, e_slmN, e_opAny, e_sldV, e_sldO, e_isB, e_isNotB, e_dct, e_getO, e_getO1, e_get1, e_rget, e_putL, e_minI, e_tupO, e_setOf, e_sortZ, e_lenZ, e_sc, e_dictO, e_fld, e_fldO, e_putF, e_meth, e_prop, e_make, $xs,*] at $h:ident)
namespace HD
open PySem PyProof.Rows
section
variable {Xd : Err → Prop} {Q : D → Prop}
theorem small_mem {c : Nat} : c ∈ ("abcdefghijklmnopqrstuvwxyz" : Str).cps.toList ↔ 97 ≤ c ∧ c ≤ 122 := by
  have e : ("abcdefghijklmnopqrstuvwxyz" : Str).cps.toList = [97, 98, 99, 100, 101, 102, 103, 104, 105, 106, 107, 108, 109, 110, 111, 112, 113, 114, 115, 116, 117, 118, 119, 120, 121, 122] := by kernel_rfl
  rw [e]
  simp only [List.mem_cons, List.not_mem_nil, or_false]
  omega
theorem sp_is_name {s : List Nat} (h : isNm s) (q : Q (.bl true)) : m_is_name [.str (St s)] Xd Q := by
  have h1 := h.1
  have h2 := h.2.1
  have e1 : decide ((1 : Int) ≤ s.length) = true := decide_eq_true (by omega)
  have e2 : decide ((s.length : Int) ≤ 8) = true := decide_eq_true (by omega)
  simp_arith [m_is_name, St_len, e1, e2, St_cps]
  refine lc_all (fun _ => .bl true) _ _ (fun d hd S N hS => ?_) ?_ ?_
  · obtain ⟨c, hc, rfl⟩ := List.mem_map.mp hd
    have := decide_eq_true (small_mem.mpr (h.2.2 c hc))
    simp_arith [this]
    exact hS
  · simp
    exact Nat.le_trans h2 (by decide)
  · refine ⟨s.map fun _ => true, by simp [Function.comp_def], ?_⟩
    have e : (s.map fun _ => true).all id = true := by simp
    rw [e]
    exact q
theorem sp_is_name_t {xs : List D} (q : Q (.bl false)) : m_is_name [.tup xs] Xd Q := by
  simp_arith [m_is_name]
  exact q
theorem sp_is_leaf {s : List Nat} {b : Bool} (h : isNm s) (q : Q (.bl true)) : m_is_leaf [.str (St s), .bl b] Xd Q := by
  simp_arith [m_is_leaf]
  refine sp_is_name h ?_
  simp_arith [true_and]
  exact q
theorem sp_is_leaf_t {xs : List D} (q : Q (.bl false)) : m_is_leaf [.tup xs, .bl false] Xd Q := by
  simp_arith [m_is_leaf]
  refine sp_is_name_t ?_
  simp_arith [true_and]
  exact q
theorem l_pair : List.lookup ("pair" : Str) tab_LENGTHS = some (D.int 3) := by kernel_rfl
theorem l_box : List.lookup ("box" : Str) tab_LENGTHS = some (D.int 3) := by kernel_rfl
theorem l_half : List.lookup ("half" : Str) tab_LENGTHS = some (D.int 2) := by kernel_rfl
theorem l_shut : List.lookup ("shut" : Str) tab_LENGTHS = some (D.int 3) := by kernel_rfl
theorem l_mark : List.lookup ("mark" : Str) tab_LENGTHS = some (D.int 3) := by kernel_rfl
theorem l_mix : List.lookup ("mix" : Str) tab_LENGTHS = some (D.int 2) := by kernel_rfl
theorem sp_sum2 {a b : Int} (q : Q (.int (a + b))) : HD.rSum [.lst [.int a, .int b]] Q := ⟨[a, b], rfl, by simpa using q⟩
theorem sp_sum1 {a : Int} (q : Q (.int a)) : HD.rSum [.lst [.int a]] Q := ⟨[a], rfl, by simpa using q⟩
theorem sp_max2 {a b : Int} (q : Q (.int (max a b))) : HD.rMax [.lst [.int a, .int b]] Q := .inl ⟨[a, b], rfl, by simp, fun m hm h => by
  have h1 := h a (by simp)
  have h2 := h b (by simp)
  simp at hm
  have : m = max a b := by omega
  rw [this]
  exact q⟩
theorem sp_max1 {a : Int} (q : Q (.int a)) : HD.rMax [.lst [.int a]] Q := .inl ⟨[a], rfl, by simp, fun m hm h => by
  simp at hm
  rw [hm]
  exact q⟩
theorem deep2 {a b c d : Int} : deepIn .non [.tup [.int a, .int b], .tup [.int c, .int d]] := by
  refine ⟨rfl, by simp [okDs, okD], by simp [depD, toP, PyData.depth], by simp [depD, toP, toPs, PyData.depth, PyData.depthAll]⟩
theorem deep1 {a b : Int} : deepIn .non [.tup [.int a, .int b]] := by
  refine ⟨rfl, by simp [okDs, okD], by simp [depD, toP, PyData.depth], by simp [depD, toP, toPs, PyData.depth, PyData.depthAll]⟩
theorem eq_tn {l : List D} : eqD (.tup l) .non = false := by simp [eqD, toP, PyData.eqv]
theorem sp_measure : ∀ (t : Tm) (n : Nat) (r : Int) (Xd : Err → Prop) (Q : D → Prop), t.ok → t.depth ≤ r → t.depth ≤ n → Q (.tup [.int t.size, .int t.depth]) → m_measure n [t.d, .bl false, .int r] Xd Q
  | .nm s, 0, r, Xd, Q, h, hr, hn, q => by simp [Tm.depth] at hn
  | .nm s, n + 1, r, Xd, Q, h, hr, hn, q => by
    simp_arith [m_measure, Tm.d]
    refine sp_is_leaf h ?_
    simp_arith [true_and]
    exact q
  | .pair a b, 0, r, Xd, Q, h, hr, hn, q => by
    have := Tm.dpos (.pair a b)
    omega
  | .pair a b, n + 1, r, Xd, Q, h, hr, hn, q => by
    have ha := Tm.dpos a
    have hb := Tm.dpos b
    simp only [Tm.depth] at hr hn
    have e1 : decide (r = 1) = false := decide_eq_false (by omega)
    simp_arith [m_measure, Tm.d]
    refine sp_is_leaf_t ?_
    simp_arith [e1, l_pair]
    refine sp_measure a n (r - 1) _ _ h.1 (by omega) (by omega) ?_
    refine sp_measure b n (r - 1) _ _ h.2 (by omega) (by omega) ?_
    simp_arith [eq_tn]
    refine ⟨.inr deep2, sp_sum2 (sp_max2 ?_)⟩
    simp_arith [true_and]
    exact q
  | .box a b, 0, r, Xd, Q, h, hr, hn, q => by
    have := Tm.dpos (.box a b)
    omega
  | .box a b, n + 1, r, Xd, Q, h, hr, hn, q => by
    have ha := Tm.dpos a
    have hb := Tm.dpos b
    simp only [Tm.depth] at hr hn
    have e1 : decide (r = 1) = false := decide_eq_false (by omega)
    simp_arith [m_measure, Tm.d]
    refine sp_is_leaf_t ?_
    simp_arith [e1, l_box]
    refine sp_measure a n (r - 1) _ _ h.1 (by omega) (by omega) ?_
    refine sp_measure b n (r - 1) _ _ h.2 (by omega) (by omega) ?_
    simp_arith [eq_tn]
    refine ⟨.inr deep2, sp_sum2 (sp_max2 ?_)⟩
    simp_arith [true_and]
    exact q
  | .half s, 0, r, Xd, Q, h, hr, hn, q => by
    have := Tm.dpos (.half s)
    omega
  | .half s, n + 1, r, Xd, Q, h, hr, hn, q => by
    simp only [Tm.depth] at hr hn
    have e1 : decide (r = 1) = false := decide_eq_false (by omega)
    simp_arith [m_measure, Tm.d]
    refine sp_is_leaf_t ?_
    simp_arith [e1, l_half]
    refine sp_is_leaf h ?_
    simp_arith [true_and]
    refine sp_measure (.nm s) n (r - 1) _ _ h (by simp only [Tm.depth]; omega) (by simp only [Tm.depth]; omega) ?_
    simp_arith [eq_tn, Tm.size, Tm.depth]
    refine ⟨.inr deep1, sp_sum1 (sp_max1 ?_)⟩
    simp_arith [true_and]
    exact q
  | .shut s a, 0, r, Xd, Q, h, hr, hn, q => by
    have := Tm.dpos (.shut s a)
    omega
  | .shut s a, n + 1, r, Xd, Q, h, hr, hn, q => by
    simp only [Tm.depth] at hr hn
    have e1 : decide (r = 1) = false := decide_eq_false (by omega)
    simp_arith [m_measure, Tm.d]
    refine sp_is_leaf_t ?_
    simp_arith [e1, l_shut]
    refine sp_is_leaf h.1 ?_
    simp_arith [true_and]
    refine sp_measure (.nm s) n (r - 1) _ _ h.1 (by simp only [Tm.depth]; omega) (by simp only [Tm.depth]; omega) ?_
    refine sp_measure a n (r - 1) _ _ h.2 (by omega) (by omega) ?_
    simp_arith [eq_tn, Tm.size, Tm.depth]
    refine ⟨.inr deep2, sp_sum2 (sp_max2 ?_)⟩
    simp_arith [true_and]
    exact q
  | .mark s a, 0, r, Xd, Q, h, hr, hn, q => by
    have := Tm.dpos (.mark s a)
    omega
  | .mark s a, n + 1, r, Xd, Q, h, hr, hn, q => by
    simp only [Tm.depth] at hr hn
    have e1 : decide (r = 1) = false := decide_eq_false (by omega)
    simp_arith [m_measure, Tm.d]
    refine sp_is_leaf_t ?_
    simp_arith [e1, l_mark]
    refine sp_is_leaf h.1 ?_
    simp_arith [true_and]
    refine sp_measure (.nm s) n (r - 1) _ _ h.1 (by simp only [Tm.depth]; omega) (by simp only [Tm.depth]; omega) ?_
    refine sp_measure a n (r - 1) _ _ h.2 (by omega) (by omega) ?_
    simp_arith [eq_tn, Tm.size, Tm.depth]
    refine ⟨.inr deep2, sp_sum2 (sp_max2 ?_)⟩
    simp_arith [true_and]
    exact q
  | .mix a, 0, r, Xd, Q, h, hr, hn, q => by
    have := Tm.dpos (.mix a)
    omega
  | .mix a, n + 1, r, Xd, Q, h, hr, hn, q => by
    have ha := Tm.dpos a
    simp only [Tm.depth] at hr hn
    have e1 : decide (r = 1) = false := decide_eq_false (by omega)
    simp_arith [m_measure, Tm.d]
    refine sp_is_leaf_t ?_
    simp_arith [e1, l_mix]
    refine sp_measure a n (r - 1) _ _ h (by omega) (by omega) ?_
    simp_arith [eq_tn]
    refine ⟨.inr deep1, sp_sum1 (sp_max1 ?_)⟩
    simp_arith [true_and]
    exact q
theorem sp_has_form {t : Tm} (h : t.ok) (hd : t.depth ≤ 12) (hs : t.size ≤ 40) (q : Q (.bl true)) : m_has_form [t.d, .bl false] Xd Q := by
  simp_arith [m_has_form]
  refine sp_measure t 13 12 _ _ h hd (by omega) ?_
  have e : decide (t.size ≤ 40) = true := decide_eq_true hs
  simp_arith [e]
  exact q
theorem sp_is_term {t : Tm} (h : t.ok) (hd : t.depth ≤ 12) (hs : t.size ≤ 40) (q : Q (.bl true)) : m_is_term [t.d] Xd Q := by
  simp_arith [m_is_term]
  exact sp_has_form h hd hs q
theorem sp_check_term {t : Tm} (h : t.ok) (hd : t.depth ≤ 12) (hs : t.size ≤ 40) (q : Q .non) : m_check_term [t.d] Xd Q := by
  simp_arith [m_check_term]
  refine sp_is_term h hd hs ?_
  simp_arith [true_and]
  exact q
end
end HD
namespace KP
open PySem PyProof.Rows HD
section
variable {Xd : Err → Prop} {Q : D → Prop}
theorem small_mem {c : Nat} : c ∈ ("abcdefghijklmnopqrstuvwxyz" : Str).cps.toList ↔ 97 ≤ c ∧ c ≤ 122 := by
  have e : ("abcdefghijklmnopqrstuvwxyz" : Str).cps.toList = [97, 98, 99, 100, 101, 102, 103, 104, 105, 106, 107, 108, 109, 110, 111, 112, 113, 114, 115, 116, 117, 118, 119, 120, 121, 122] := by kernel_rfl
  rw [e]
  simp only [List.mem_cons, List.not_mem_nil, or_false]
  omega
theorem sp_is_name {s : List Nat} (h : isNm s) (q : Q (.bl true)) : m_is_name [.str (St s)] Xd Q := by
  have h1 := h.1
  have h2 := h.2.1
  have e1 : decide ((1 : Int) ≤ s.length) = true := decide_eq_true (by omega)
  have e2 : decide ((s.length : Int) ≤ 8) = true := decide_eq_true (by omega)
  simp_arith [m_is_name, St_len, e1, e2, St_cps]
  refine lc_all (fun _ => .bl true) _ _ (fun d hd S N hS => ?_) ?_ ?_
  · obtain ⟨c, hc, rfl⟩ := List.mem_map.mp hd
    have := decide_eq_true (small_mem.mpr (h.2.2 c hc))
    simp_arith [this]
    exact hS
  · simp
    exact Nat.le_trans h2 (by decide)
  · refine ⟨s.map fun _ => true, by simp [Function.comp_def], ?_⟩
    have e : (s.map fun _ => true).all id = true := by simp
    rw [e]
    exact q
theorem sp_is_name_t {xs : List D} (q : Q (.bl false)) : m_is_name [.tup xs] Xd Q := by
  simp_arith [m_is_name]
  exact q
theorem sp_is_leaf {l : Lf} {o : Bool} (h : l.ok) (q : Q (.bl (o || l.shut))) : m_is_leaf [l.d, .bl o] Xd Q := by
  cases l with
  | nm s =>
    simp_arith [m_is_leaf, Lf.d]
    refine sp_is_name h ?_
    simp_arith [true_and]
    simp only [Lf.shut, Bool.or_true] at q
    exact q
  | vr s =>
    simp_arith [m_is_leaf, Lf.d]
    refine sp_is_name_t ?_
    simp_arith [true_and]
    cases o with
    | false => exact q
    | true =>
      simp_arith [true_and]
      exact sp_is_name h q
theorem sp_is_leaf_t {tag : Str} {l : List D} {o : Bool} (ht : decide (tag = Str.ofString "var") = false) (q : Q (.bl false)) : m_is_leaf [.tup (.str tag :: l), .bl o] Xd Q := by
  simp_arith [m_is_leaf]
  refine sp_is_name_t ?_
  simp_arith [true_and]
  cases o with
  | false => exact q
  | true =>
    simp_arith [ht]
    split
    · exact q
    · exact q
theorem l_pair : List.lookup ("pair" : Str) tab_LENGTHS = some (D.int 3) := by kernel_rfl
theorem l_box : List.lookup ("box" : Str) tab_LENGTHS = some (D.int 3) := by kernel_rfl
theorem l_half : List.lookup ("half" : Str) tab_LENGTHS = some (D.int 2) := by kernel_rfl
theorem l_shut : List.lookup ("shut" : Str) tab_LENGTHS = some (D.int 3) := by kernel_rfl
theorem l_mark : List.lookup ("mark" : Str) tab_LENGTHS = some (D.int 3) := by kernel_rfl
theorem l_mix : List.lookup ("mix" : Str) tab_LENGTHS = some (D.int 2) := by kernel_rfl
theorem sp_sum2 {a b : Int} (q : Q (.int (a + b))) : HD.rSum [.lst [.int a, .int b]] Q := ⟨[a, b], rfl, by simpa using q⟩
theorem sp_sum1 {a : Int} (q : Q (.int a)) : HD.rSum [.lst [.int a]] Q := ⟨[a], rfl, by simpa using q⟩
theorem sp_max2 {a b : Int} (q : Q (.int (max a b))) : HD.rMax [.lst [.int a, .int b]] Q := .inl ⟨[a, b], rfl, by simp, fun m hm h => by
  have h1 := h a (by simp)
  have h2 := h b (by simp)
  simp at hm
  have : m = max a b := by omega
  rw [this]
  exact q⟩
theorem sp_max1 {a : Int} (q : Q (.int a)) : HD.rMax [.lst [.int a]] Q := .inl ⟨[a], rfl, by simp, fun m hm h => by
  simp at hm
  rw [hm]
  exact q⟩
theorem deep2 {a b c d : Int} : deepIn .non [.tup [.int a, .int b], .tup [.int c, .int d]] := by
  refine ⟨rfl, by simp [okDs, okD], by simp [depD, toP, PyData.depth], by simp [depD, toP, toPs, PyData.depth, PyData.depthAll]⟩
theorem deep1 {a b : Int} : deepIn .non [.tup [.int a, .int b]] := by
  refine ⟨rfl, by simp [okDs, okD], by simp [depD, toP, PyData.depth], by simp [depD, toP, toPs, PyData.depth, PyData.depthAll]⟩
theorem eq_tn {l : List D} : eqD (.tup l) .non = false := by simp [eqD, toP, PyData.eqv]
theorem deepX {x y : D} (hx : x = .non ∨ ∃ a b, x = .tup [.int a, .int b]) (hy : y = .non ∨ ∃ a b, y = .tup [.int a, .int b]) : deepIn .non [x, y] := by
  rcases hx with rfl | ⟨a, b, rfl⟩ <;> rcases hy with rfl | ⟨c, d, rfl⟩ <;> exact ⟨rfl, by simp [okDs, okD], by simp [depD, toP, PyData.depth], by simp [depD, toP, toPs, PyData.depth, PyData.depthAll]⟩
theorem deepY {x : D} (hx : x = .non ∨ ∃ a b, x = .tup [.int a, .int b]) : deepIn .non [x] := by
  rcases hx with rfl | ⟨a, b, rfl⟩ <;> exact ⟨rfl, by simp [okDs, okD], by simp [depD, toP, PyData.depth], by simp [depD, toP, toPs, PyData.depth, PyData.depthAll]⟩
theorem e_nnN : isNoneD .non = true := rfl
theorem eq_nn : eqD .non .non = true := by simp [eqD, toP, PyData.eqv]
def cz (t : Pt) (o : Bool) (r : Int) : Bool := decide (t.depth ≤ r) && (o || t.cl)
def mz (t : Pt) (o : Bool) (r : Int) : D := if cz t o r = true then .tup [.int t.size, .int t.depth] else .non
theorem c2 {x y r : Int} {o p q : Bool} : (decide (1 + max x y ≤ r) && (o || (p && q))) = ((decide (x ≤ r - 1) && (o || p)) && (decide (y ≤ r - 1) && (o || q))) := by
  have : decide (1 + max x y ≤ r) = (decide (x ≤ r - 1) && decide (y ≤ r - 1)) := by
    rw [Bool.eq_iff_iff]
    simp
    omega
  rw [this]
  cases o <;> cases p <;> cases q <;> cases decide (x ≤ r - 1) <;> cases decide (y ≤ r - 1) <;> rfl
theorem l_var : List.lookup ("var" : Str) tab_LENGTHS = none := by kernel_rfl
theorem cz_of {t : Pt} {o : Bool} {r : Int} (h : t.depth ≤ r) : cz t o r = (o || t.cl) := by
  unfold cz
  rw [decide_eq_true h, Bool.true_and]
theorem mz_t {t : Pt} {o : Bool} {r : Int} (h : cz t o r = true) : mz t o r = .tup [.int t.size, .int t.depth] := if_pos h
theorem mz_f {t : Pt} {o : Bool} {r : Int} (h : cz t o r = false) : mz t o r = .non := if_neg (by rw [h]; decide)
theorem mz_is (t : Pt) (o : Bool) (r : Int) : mz t o r = .non ∨ ∃ a b, mz t o r = .tup [.int a, .int b] := by
  unfold mz
  split
  · exact .inr ⟨_, _, rfl⟩
  · exact .inl rfl
theorem sp_measure : ∀ (t : Pt) (n : Nat) (r : Int) (o : Bool) (Xd : Err → Prop) (Q : D → Prop), t.ok → 1 ≤ r → r ≤ n → Q (mz t o r) → m_measure n [t.d, .bl o, .int r] Xd Q
  | t, 0, r, o, Xd, Q, h, hr, hn, q => by omega
  | .lf l, n + 1, r, o, Xd, Q, h, hr, hn, q => by
    simp_arith [m_measure, Pt.d]
    refine sp_is_leaf h ?_
    have hz : cz (.lf l) o r = (o || l.shut) := cz_of (t := .lf l) hr
    cases hc : (o || l.shut) with
    | true =>
      rw [mz_t (hz.trans hc)] at q
      simp_arith [true_and]
      exact q
    | false =>
      rw [mz_f (hz.trans hc)] at q
      cases l with
      | nm s => simp [Lf.shut] at hc
      | vr s =>
        simp_arith [Lf.d]
        cases decide (r = 1) with
        | true => exact q
        | false =>
          simp_arith [l_var]
          exact q
  | .pair a b, n + 1, r, o, Xd, Q, h, hr, hn, q => by
    have ha := Pt.dpos a
    have hb := Pt.dpos b
    simp_arith [m_measure, Pt.d]
    refine sp_is_leaf_t t_pair_var ?_
    simp_arith [true_and]
    cases e1 : decide (r = 1) with
    | true =>
      have : r = 1 := of_decide_eq_true e1
      have z : cz (.pair a b) o r = false := by
        unfold cz
        rw [decide_eq_false (by simp only [Pt.depth]; omega)]
        rfl
      rw [mz_f z] at q
      simp_arith [true_and]
      exact q
    | false =>
      have : r ≠ 1 := of_decide_eq_false e1
      simp_arith [l_pair]
      refine sp_measure a n (r - 1) o _ _ h.1 (by omega) (by omega) ?_
      refine sp_measure b n (r - 1) o _ _ h.2 (by omega) (by omega) ?_
      refine ⟨.inr (deepX (mz_is _ _ _) (mz_is _ _ _)), ?_⟩
      have cc : cz (.pair a b) o r = (cz a o (r - 1) && cz b o (r - 1)) := c2
      cases za : cz a o (r - 1) with
      | false =>
        rw [mz_f (cc.trans (by rw [za]; rfl))] at q
        simp_arith [mz_f za, eq_nn]
        exact q
      | true =>
        cases zb : cz b o (r - 1) with
        | false =>
          rw [mz_f (cc.trans (by rw [za, zb]; rfl))] at q
          simp_arith [mz_t za, mz_f zb, eq_nn, eq_tn]
          exact q
        | true =>
          rw [mz_t (cc.trans (by rw [za, zb]; rfl))] at q
          simp_arith [mz_t za, mz_t zb, eq_tn]
          refine sp_sum2 (sp_max2 ?_)
          simp_arith [true_and]
          exact q
  | .box a b, n + 1, r, o, Xd, Q, h, hr, hn, q => by
    have ha := Pt.dpos a
    have hb := Pt.dpos b
    simp_arith [m_measure, Pt.d]
    refine sp_is_leaf_t t_box_var ?_
    simp_arith [true_and]
    cases e1 : decide (r = 1) with
    | true =>
      have : r = 1 := of_decide_eq_true e1
      have z : cz (.box a b) o r = false := by
        unfold cz
        rw [decide_eq_false (by simp only [Pt.depth]; omega)]
        rfl
      rw [mz_f z] at q
      simp_arith [true_and]
      exact q
    | false =>
      have : r ≠ 1 := of_decide_eq_false e1
      simp_arith [l_box]
      refine sp_measure a n (r - 1) o _ _ h.1 (by omega) (by omega) ?_
      refine sp_measure b n (r - 1) o _ _ h.2 (by omega) (by omega) ?_
      refine ⟨.inr (deepX (mz_is _ _ _) (mz_is _ _ _)), ?_⟩
      have cc : cz (.box a b) o r = (cz a o (r - 1) && cz b o (r - 1)) := c2
      cases za : cz a o (r - 1) with
      | false =>
        rw [mz_f (cc.trans (by rw [za]; rfl))] at q
        simp_arith [mz_f za, eq_nn]
        exact q
      | true =>
        cases zb : cz b o (r - 1) with
        | false =>
          rw [mz_f (cc.trans (by rw [za, zb]; rfl))] at q
          simp_arith [mz_t za, mz_f zb, eq_nn, eq_tn]
          exact q
        | true =>
          rw [mz_t (cc.trans (by rw [za, zb]; rfl))] at q
          simp_arith [mz_t za, mz_t zb, eq_tn]
          refine sp_sum2 (sp_max2 ?_)
          simp_arith [true_and]
          exact q
  | .half l, n + 1, r, o, Xd, Q, h, hr, hn, q => by
    simp_arith [m_measure, Pt.d]
    refine sp_is_leaf_t t_half_var ?_
    simp_arith [true_and]
    cases e1 : decide (r = 1) with
    | true =>
      have : r = 1 := of_decide_eq_true e1
      have z : cz (.half l) o r = false := by
        unfold cz
        rw [decide_eq_false (by simp only [Pt.depth]; omega)]
        rfl
      rw [mz_f z] at q
      simp_arith [true_and]
      exact q
    | false =>
      have : r ≠ 1 := of_decide_eq_false e1
      simp_arith [l_half]
      refine sp_is_leaf h ?_
      have hz : cz (.half l) o r = (o || l.shut) := cz_of (t := .half l) (show (2 : Int) ≤ r by omega)
      have hy : cz (.lf l) o (r - 1) = (o || l.shut) := cz_of (t := .lf l) (show (1 : Int) ≤ r - 1 by omega)
      cases hc : (o || l.shut) with
      | false =>
        rw [mz_f (hz.trans hc)] at q
        simp_arith [true_and]
        exact q
      | true =>
        rw [mz_t (hz.trans hc)] at q
        simp_arith [true_and]
        refine sp_measure (.lf l) n (r - 1) o _ _ h (by omega) (by omega) ?_
        simp_arith [mz_t (hy.trans hc), eq_tn]
        refine ⟨.inr (deepY (.inr ⟨_, _, rfl⟩)), sp_sum1 (sp_max1 ?_)⟩
        simp_arith [Pt.size, Pt.depth]
        exact q
  | .shut l a, n + 1, r, o, Xd, Q, h, hr, hn, q => by
    have ha := Pt.dpos a
    simp_arith [m_measure, Pt.d]
    refine sp_is_leaf_t t_shut_var ?_
    simp_arith [true_and]
    cases e1 : decide (r = 1) with
    | true =>
      have : r = 1 := of_decide_eq_true e1
      have z : cz (.shut l a) o r = false := by
        unfold cz
        rw [decide_eq_false (by simp only [Pt.depth]; omega)]
        rfl
      rw [mz_f z] at q
      simp_arith [true_and]
      exact q
    | false =>
      have : r ≠ 1 := of_decide_eq_false e1
      simp_arith [l_shut]
      refine sp_is_leaf h.1 ?_
      have hy : cz (.lf l) o (r - 1) = (o || l.shut) := cz_of (t := .lf l) (show (1 : Int) ≤ r - 1 by omega)
      have cc : cz (.shut l a) o r = (cz (.lf l) o (r - 1) && cz a o (r - 1)) := c2
      cases hc : (o || l.shut) with
      | false =>
        rw [mz_f (cc.trans (by rw [hy, hc]; rfl))] at q
        simp_arith [true_and]
        exact q
      | true =>
        simp_arith [true_and]
        refine sp_measure (.lf l) n (r - 1) o _ _ h.1 (by omega) (by omega) ?_
        refine sp_measure a n (r - 1) o _ _ h.2 (by omega) (by omega) ?_
        refine ⟨.inr (deepX (mz_is _ _ _) (mz_is _ _ _)), ?_⟩
        cases za : cz a o (r - 1) with
        | false =>
          rw [mz_f (cc.trans (by rw [hy, hc, za]; rfl))] at q
          simp_arith [mz_t (hy.trans hc), mz_f za, eq_nn, eq_tn]
          exact q
        | true =>
          rw [mz_t (cc.trans (by rw [hy, hc, za]; rfl))] at q
          simp_arith [mz_t (hy.trans hc), mz_t za, eq_tn]
          refine sp_sum2 (sp_max2 ?_)
          simp_arith [Pt.size, Pt.depth]
          exact q
  | .mark l a, n + 1, r, o, Xd, Q, h, hr, hn, q => by
    have ha := Pt.dpos a
    simp_arith [m_measure, Pt.d]
    refine sp_is_leaf_t t_mark_var ?_
    simp_arith [true_and]
    cases e1 : decide (r = 1) with
    | true =>
      have : r = 1 := of_decide_eq_true e1
      have z : cz (.mark l a) o r = false := by
        unfold cz
        rw [decide_eq_false (by simp only [Pt.depth]; omega)]
        rfl
      rw [mz_f z] at q
      simp_arith [true_and]
      exact q
    | false =>
      have : r ≠ 1 := of_decide_eq_false e1
      simp_arith [l_mark]
      refine sp_is_leaf h.1 ?_
      have hy : cz (.lf l) o (r - 1) = (o || l.shut) := cz_of (t := .lf l) (show (1 : Int) ≤ r - 1 by omega)
      have cc : cz (.mark l a) o r = (cz (.lf l) o (r - 1) && cz a o (r - 1)) := c2
      cases hc : (o || l.shut) with
      | false =>
        rw [mz_f (cc.trans (by rw [hy, hc]; rfl))] at q
        simp_arith [true_and]
        exact q
      | true =>
        simp_arith [true_and]
        refine sp_measure (.lf l) n (r - 1) o _ _ h.1 (by omega) (by omega) ?_
        refine sp_measure a n (r - 1) o _ _ h.2 (by omega) (by omega) ?_
        refine ⟨.inr (deepX (mz_is _ _ _) (mz_is _ _ _)), ?_⟩
        cases za : cz a o (r - 1) with
        | false =>
          rw [mz_f (cc.trans (by rw [hy, hc, za]; rfl))] at q
          simp_arith [mz_t (hy.trans hc), mz_f za, eq_nn, eq_tn]
          exact q
        | true =>
          rw [mz_t (cc.trans (by rw [hy, hc, za]; rfl))] at q
          simp_arith [mz_t (hy.trans hc), mz_t za, eq_tn]
          refine sp_sum2 (sp_max2 ?_)
          simp_arith [Pt.size, Pt.depth]
          exact q
  | .mix a, n + 1, r, o, Xd, Q, h, hr, hn, q => by
    have ha := Pt.dpos a
    simp_arith [m_measure, Pt.d]
    refine sp_is_leaf_t t_mix_var ?_
    simp_arith [true_and]
    cases e1 : decide (r = 1) with
    | true =>
      have : r = 1 := of_decide_eq_true e1
      have z : cz (.mix a) o r = false := by
        unfold cz
        rw [decide_eq_false (by simp only [Pt.depth]; omega)]
        rfl
      rw [mz_f z] at q
      simp_arith [true_and]
      exact q
    | false =>
      have : r ≠ 1 := of_decide_eq_false e1
      simp_arith [l_mix]
      refine sp_measure a n (r - 1) o _ _ h (by omega) (by omega) ?_
      refine ⟨.inr (deepY (mz_is _ _ _)), ?_⟩
      have cc : cz (.mix a) o r = cz a o (r - 1) := by
        unfold cz
        have : decide ((Pt.mix a).depth ≤ r) = decide (a.depth ≤ r - 1) := by
          rw [Bool.eq_iff_iff, decide_eq_true_eq, decide_eq_true_eq]
          show 1 + a.depth ≤ r ↔ _
          omega
        rw [this]
        rfl
      cases za : cz a o (r - 1) with
      | false =>
        rw [mz_f (cc.trans za)] at q
        simp_arith [mz_f za, eq_nn]
        exact q
      | true =>
        rw [mz_t (cc.trans za)] at q
        simp_arith [mz_t za, eq_tn]
        refine sp_sum1 (sp_max1 ?_)
        simp_arith [true_and]
        exact q
theorem sp_has_form {t : Pt} {o : Bool} (h : t.ok) (q : Q (.bl (cz t o 12 && decide (t.size ≤ 40)))) : m_has_form [t.d, .bl o] Xd Q := by
  simp_arith [m_has_form]
  refine sp_measure t 13 12 o _ _ h (by omega) (by omega) ?_
  cases z : cz t o 12 with
  | false =>
    rw [z] at q
    simp_arith [mz_f z, e_nnN]
    exact q
  | true =>
    rw [z] at q
    simp_arith [mz_t z]
    exact q
theorem sp_is_term {t : Pt} (h : t.ok) (q : Q (.bl (cz t false 12 && decide (t.size ≤ 40)))) : m_is_term [t.d] Xd Q := by
  simp_arith [m_is_term]
  exact sp_has_form h q
theorem k_lp : Str.ofString "(" = St [40] := by kernel_rfl
theorem k_and : Str.ofString " & " = St [32, 38, 32] := by kernel_rfl
theorem k_rp : Str.ofString ")" = St [41] := by kernel_rfl
theorem k_lb : Str.ofString "[" = St [91] := by kernel_rfl
theorem k_rb : Str.ofString "]" = St [93] := by kernel_rfl
theorem k_lt : Str.ofString "<" = St [60] := by kernel_rfl
theorem k_gt : Str.ofString ">" = St [62] := by kernel_rfl
theorem k_rl : Str.ofString "]<" = St [93, 60] := by kernel_rfl
theorem k_lc : Str.ofString "{" = St [123] := by kernel_rfl
theorem k_rc : Str.ofString "}" = St [125] := by kernel_rfl
theorem k_ex : Str.ofString "!" = St [33] := by kernel_rfl
theorem k_half : Str.ofString "half " = St [104, 97, 108, 102, 32] := by kernel_rfl
theorem k_mix : Str.ofString "mix(" = St [109, 105, 120, 40] := by kernel_rfl
theorem shape (a : Pt) : (∃ l, a = .lf l) ∨ ∃ tag r, a.d = .tup (.str tag :: r) ∧ decide (tag = Str.ofString "var") = false ∧ Pt.key a.wd a = [60] ++ a.wd ++ [62] := by
  cases a with
  | lf l => exact .inl ⟨l, rfl⟩
  | pair a b => exact .inr ⟨_, _, rfl, t_pair_var, rfl⟩
  | box a b => exact .inr ⟨_, _, rfl, t_box_var, rfl⟩
  | half s => exact .inr ⟨_, _, rfl, t_half_var, rfl⟩
  | shut s a => exact .inr ⟨_, _, rfl, t_shut_var, rfl⟩
  | mark s a => exact .inr ⟨_, _, rfl, t_mark_var, rfl⟩
  | mix a => exact .inr ⟨_, _, rfl, t_mix_var, rfl⟩
theorem k_qm : Str.ofString "?" = St [63] := by kernel_rfl
theorem sp_m_spelled : ∀ (t : Pt) (n : Nat) (Xd : Err → Prop) (Q : D → Prop), t.ok → t.depth ≤ 12 → t.depth ≤ n → Q (.str (St t.wd)) → m_spelled n [t.d] Xd Q
  | t, 0, Xd, Q, h, hd, hn, q => by
    have := Pt.dpos t
    omega
  | .lf (.nm s), n + 1, Xd, Q, h, hd, hn, q => by
    simp_arith [m_spelled, Pt.d, Lf.d]
    exact q
  | .lf (.vr s), n + 1, Xd, Q, h, hd, hn, q => by
    have w1 := Pt.okw h hd
    have e : Pt.wd (.lf (.vr s)) = [63] ++ s := rfl
    rw [e] at w1 q
    simp_arith [m_spelled, Pt.d, Lf.d, k_qm]
    simp only [St_app]
    exact ⟨w1, q⟩
  | .pair a b, n + 1, Xd, Q, h, hd, hn, q => by
    have w1 := Pt.okw h hd
    simp only [Pt.wd] at w1 q
    simp only [Pt.depth] at hd hn
    simp_arith [m_spelled, Pt.d]
    refine sp_m_spelled a n _ _ h.1 (by omega) (by omega) ?_
    refine sp_m_spelled b n _ _ h.2 (by omega) (by omega) ?_
    simp_arith [k_lp, k_and, k_rp]
    simp only [St_app]
    exact ⟨okS_pre (okS_pre (okS_pre w1)), okS_pre (okS_pre w1), okS_pre w1, w1, q⟩
  | .box a b, n + 1, Xd, Q, h, hd, hn, q => by
    have w1 := Pt.okw h hd
    simp only [Pt.wd] at w1 q
    simp only [Pt.depth] at hd hn
    simp_arith [m_spelled, Pt.d]
    refine sp_m_spelled a n _ _ h.1 (by omega) (by omega) ?_
    refine sp_m_spelled b n _ _ h.2 (by omega) (by omega) ?_
    rcases shape a with ⟨l, rfl⟩ | ⟨tag, l, e1, e2, e3⟩
    · cases l with
      | nm s =>
        simp_arith [k_lb, k_rb, Pt.d, Lf.d]
        simp only [St_app]
        exact ⟨okS_pre (okS_pre w1), okS_pre w1, w1, q⟩
      | vr s =>
        simp_arith [k_lb, k_rb, Pt.d, Lf.d]
        simp only [St_app]
        exact ⟨okS_pre (okS_pre w1), okS_pre w1, w1, q⟩
    · rw [e3] at w1 q
      simp_arith [k_lb, k_rb, k_lt, k_gt, k_rl, e1, e2]
      simp only [St_app]
      exact ⟨okS_pre (okS_pre w1), okS_pre w1, okS_pre (okS_suf w1), okS_suf w1, w1, q⟩
  | .half l, n + 1, Xd, Q, h, hd, hn, q => by
    have w1 := Pt.okw h hd
    simp only [Pt.wd] at w1 q
    simp only [Pt.depth] at hd hn
    simp_arith [m_spelled, Pt.d]
    refine sp_m_spelled (.lf l) n _ _ h (by simp only [Pt.depth]; omega) (by simp only [Pt.depth]; omega) ?_
    simp_arith [k_half]
    simp only [St_app]
    exact ⟨w1, q⟩
  | .shut l a, n + 1, Xd, Q, h, hd, hn, q => by
    have w1 := Pt.okw h hd
    simp only [Pt.wd] at w1 q
    simp only [Pt.depth] at hd hn
    simp_arith [m_spelled, Pt.d]
    refine sp_m_spelled (.lf l) n _ _ h.1 (by simp only [Pt.depth]; omega) (by simp only [Pt.depth]; omega) ?_
    refine sp_m_spelled a n _ _ h.2 (by omega) (by omega) ?_
    simp_arith [k_lc, k_rc]
    simp only [St_app]
    exact ⟨okS_pre (okS_pre w1), okS_pre w1, w1, q⟩
  | .mark l a, n + 1, Xd, Q, h, hd, hn, q => by
    have w1 := Pt.okw h hd
    simp only [Pt.wd] at w1 q
    simp only [Pt.depth] at hd hn
    simp_arith [m_spelled, Pt.d]
    refine sp_m_spelled (.lf l) n _ _ h.1 (by simp only [Pt.depth]; omega) (by simp only [Pt.depth]; omega) ?_
    refine sp_m_spelled a n _ _ h.2 (by omega) (by omega) ?_
    simp_arith [k_lp, k_ex, k_rp]
    simp only [St_app]
    exact ⟨okS_pre (okS_pre (okS_pre w1)), okS_pre (okS_pre w1), okS_pre w1, w1, q⟩
  | .mix a, n + 1, Xd, Q, h, hd, hn, q => by
    have w1 := Pt.okw h hd
    simp only [Pt.wd] at w1 q
    simp only [Pt.depth] at hd hn
    simp_arith [m_spelled, Pt.d]
    refine sp_m_spelled a n _ _ h (by omega) (by omega) ?_
    simp_arith [k_mix, k_rp]
    simp only [St_app]
    exact ⟨okS_pre w1, w1, q⟩
/-! ### reading -/
def noLet (q : List Nat) : Prop := ∀ c r, q = c :: r → ¬ (97 ≤ c ∧ c ≤ 122)
theorem at_pk {T p w q : List Nat} {i : Int} {k : Nat} (hT : T = p ++ w ++ q) (hi : i = p.length) {c : Nat} (h : (w ++ q)[k]? = some c) : L2.atI (St T).cps.toList (i + (k : Int)) = some c := by
  have e : i + (k : Int) = ((p.length + k : Nat) : Int) := by omega
  rw [e, St_cps, hT, List.append_assoc]
  exact at_nat (by rw [List.getElem?_append_right (by omega)]; simpa using h)
theorem sp_word_end {T p w q : List Nat} {i : Int} (hT : T = p ++ w ++ q) (hi : i = p.length) (hw : ∀ c ∈ w, 97 ≤ c ∧ c ≤ 122) (hq : noLet q) (k : Q (.int (i + w.length))) : m_word_end [.str (St T), .int i] Xd Q := by
  simp_arith [m_word_end]
  refine ⟨fun m ρ => ∃ k : Nat, k + m = w.length ∧ ρ = [some (.val (.str (St T))), some (.val (.int (i + (k : Int))))], ⟨w.length, 0, by omega, by simp⟩, ?_⟩
  rintro m ρ ⟨j, hj, rfl⟩
  have lT : T.length = p.length + w.length + q.length := by rw [hT]; simp [Nat.add_assoc]
  cases m with
  | zero =>
    have ej : j = w.length := by omega
    subst ej
    cases q with
    | nil =>
      have e : decide (i + (w.length : Int) < (T.length : Int)) = false := decide_eq_false (by simp at lT; omega)
      simp_arith [St_len, e]
      exact k
    | cons c r =>
      have e : decide (i + (w.length : Int) < (T.length : Int)) = true := decide_eq_true (by simp at lT; omega)
      have e2 := at_pk (k := w.length) (c := c) hT hi (by simp)
      have e3 := decide_eq_false (fun z => hq c r rfl (small_mem.mp z))
      simp_arith [St_len, e, e2, e3]
      exact k
  | succ m =>
    have e : decide (i + (j : Int) < (T.length : Int)) = true := decide_eq_true (by omega)
    have hlt : j < w.length := by omega
    have e2 := at_pk (k := j) (c := w[j]) hT hi (by rw [List.getElem?_append_left hlt]; simp)
    have e3 := decide_eq_true (small_mem.mpr (hw w[j] (List.getElem_mem _)))
    simp_arith [St_len, e, e2, e3, dAug, Sl.val.injEq]
    exact ⟨m, by omega, j + 1, by omega, by simp; omega⟩
theorem isNm.cons {w : List Nat} (h : isNm w) : ∃ c r, w = c :: r ∧ 97 ≤ c ∧ c ≤ 122 := by
  cases w with
  | nil => simp [isNm] at h
  | cons c r => exact ⟨c, r, rfl, h.2.2 c (by simp)⟩
theorem cut_is {T p w q : List Nat} {i j : Int} (hT : T = p ++ w ++ q) (hi : i = p.length) (hj : j = i + w.length) : L2.cutS (St T) (some i) (some j) = St w := by
  subst hj hi hT
  exact cut_at
end
end KP
namespace KP
open PySem PyProof.Rows HD
section
variable {Xd : Err → Prop} {Q : D → Prop}
theorem Lf.first {l : Lf} (h : l.ok) : ∃ c r, l.wd = c :: r ∧ (c = 63 ∨ (97 ≤ c ∧ c ≤ 122)) := by
  cases l with
  | nm s =>
    obtain ⟨c, r, e, hc⟩ := isNm.cons h
    exact ⟨c, r, e, .inr hc⟩
  | vr s => exact ⟨63, s, rfl, .inl rfl⟩
theorem sp_leaf_at {T p q : List Nat} {l : Lf} {i : Int} (hT : T = p ++ l.wd ++ q) (hi : i = p.length) (hw : l.ok) (hq : noLet q) (k : Q (.tup [l.d, .int (i + l.wd.length)])) : m_leaf_at [.str (St T), .int i] Xd Q := by
  cases l with
  | nm w =>
    simp only [Lf.wd, Lf.d] at hT k
    obtain ⟨c, r, rfl, hc⟩ := isNm.cons hw
    have e1 : L2.cutS (St T) (some i) (some (i + 1)) = St [c] := cut_is (p := p) (q := r ++ q) (by rw [hT]; simp) hi (by simp)
    have e2 : decide (St [c] = St [63]) = false := decide_eq_false (by rw [St_inj]; simp; omega)
    simp_arith [m_leaf_at, e1, k_qm, e2, Int.add_zero]
    refine sp_word_end hT hi hw.2.2 hq ?_
    have e3 : L2.cutS (St T) (some i) (some (i + ((c :: r).length : Int))) = St (c :: r) := cut_is hT hi rfl
    simp only [List.length_cons] at e3 k ⊢
    simp_arith [e3]
    refine sp_is_name hw ?_
    simp_arith [true_and]
    exact k
  | vr w =>
    simp only [Lf.wd, Lf.d] at hT k
    have e1 : L2.cutS (St T) (some i) (some (i + 1)) = St [63] := cut_is (p := p) (q := w ++ q) (by rw [hT]; simp) hi (by simp)
    have e2 : decide (St [63] = St [63]) = true := decide_eq_true rfl
    simp_arith [m_leaf_at, e1, k_qm]
    have hT2 : T = (p ++ [63]) ++ w ++ q := by rw [hT]; simp
    have hi2 : i + 1 = ((p ++ [63]).length : Int) := by simp; omega
    refine sp_word_end hT2 hi2 hw.2.2 hq ?_
    have e3 : L2.cutS (St T) (some (i + 1)) (some (i + 1 + (w.length : Int))) = St w := cut_is hT2 hi2 rfl
    have e4 : decide (i + 1 = i) = false := decide_eq_false (by omega)
    simp_arith [e3, e4]
    refine sp_is_name hw ?_
    simp_arith [true_and]
    have e5 : i + ((63 :: w).length : Int) = i + 1 + (w.length : Int) := by simp; omega
    rw [e5] at k
    exact k
theorem sw {T p r m : List Nat} {i : Int} (hT : T = p ++ r) (hi : i = p.length) : Txt.startswith3 (St T) (St m) i = m.isPrefixOf r := by
  subst hi hT
  exact starts_at
theorem sp_behind {T p m q : List Nat} {i : Int} {x : D} (hT : T = p ++ m ++ q) (hi : i = p.length) (k : Q (.tup [x, .int (i + m.length)])) : m_behind [.str (St T), .tup [x, .int i], .str (St m)] Xd Q := by
  have e := sw (m := m) (T := T) (p := p) (r := m ++ q) (by rw [hT]; simp) hi
  have e2 : m.isPrefixOf (m ++ q) = true := by rw [List.isPrefixOf_iff_prefix]; exact ⟨q, rfl⟩
  rw [e2] at e
  simp_arith [m_behind, e, St_len]
  exact k
def fol (q : List Nat) : Prop := q = [] ∨ (∃ r, q = 32 :: 38 :: 32 :: r) ∨ ∃ c r, q = c :: r ∧ c ≠ 32 ∧ c ≠ 40 ∧ c ≠ 60 ∧ ¬ (97 ≤ c ∧ c ≤ 122)
theorem fol.no {q : List Nat} (h : fol q) : noLet q := by
  rintro c r rfl
  rcases h with h | ⟨r', h⟩ | ⟨c', r', h, h1, h2, h3, h4⟩
  · cases h
  · cases h; omega
  · cases h; exact h4
theorem k_mixw : Str.ofString "mix" = St [109, 105, 120] := by kernel_rfl
theorem k_halfw : Str.ofString "half" = St [104, 97, 108, 102] := by kernel_rfl
theorem k_bl : Str.ofString " " = St [32] := by kernel_rfl
theorem pf1 {c x : Nat} {l : List Nat} (h : x ≠ c) : [x].isPrefixOf (c :: l) = false := by
  simp [List.isPrefixOf, h]
theorem pf2 {x : Nat} {l : List Nat} : [x].isPrefixOf (x :: l) = true := by
  simp [List.isPrefixOf]
theorem fol.par {q : List Nat} (h : fol q) : [40].isPrefixOf q = false := by
  rcases h with rfl | ⟨r', rfl⟩ | ⟨c', r', rfl, h1, h2, h3, h4⟩
  · rfl
  · rfl
  · exact pf1 (fun e => h2 e.symm)
theorem fol.and {q : List Nat} (h : fol q) : [32].isPrefixOf q = false ∨ ([32].isPrefixOf q = true ∧ [32, 38, 32].isPrefixOf q = true) := by
  rcases h with rfl | ⟨r', rfl⟩ | ⟨c', r', rfl, h1, h2, h3, h4⟩
  · exact .inl rfl
  · exact .inr ⟨rfl, by simp [List.isPrefixOf]⟩
  · exact .inl (pf1 (fun e => h1 e.symm))
theorem fol_c {c : Nat} {r : List Nat} (h : c ≠ 32 ∧ c ≠ 40 ∧ c ≠ 60 ∧ ¬ (97 ≤ c ∧ c ≤ 122) := by omega) : fol (c :: r) := .inr (.inr ⟨c, r, rfl, h⟩)
theorem fol_and {r : List Nat} : fol (32 :: 38 :: 32 :: r) := .inr (.inl ⟨r, rfl⟩)
/-- a word's first sign is a letter: no bracket -/
theorem nobr {T p r : List Nat} {i : Int} {c x : Nat} (hT : T = p ++ c :: r) (hi : i = p.length) (h : x ≠ c) : Txt.startswith3 (St T) (St [x]) i = false := by
  rw [sw hT hi]
  exact pf1 h
theorem isbr {T p r : List Nat} {i : Int} {c : Nat} (hT : T = p ++ c :: r) (hi : i = p.length) : Txt.startswith3 (St T) (St [c]) i = true := by
  rw [sw hT hi]
  exact pf2
theorem sp_word_nm {tm : DFn} {T p w q : List Nat} {i r : Int} (hT : T = p ++ w ++ q) (hi : i = p.length) (hw : isNm w) (hq : fol q) (k : Q (.tup [.str (St w), .int (i + w.length)])) : m_word_at tm [.str (St T), .int i, .int r] Xd Q := by
  simp_arith [m_word_at]
  refine sp_word_end hT hi hw.2.2 hq.no ?_
  have e3 : L2.cutS (St T) (some i) (some (i + (w.length : Int))) = St w := cut_is hT hi rfl
  have hi2 : i + (w.length : Int) = ((p ++ w).length : Int) := by simp; omega
  have e4 : Txt.startswith3 (St T) (St [40]) (i + (w.length : Int)) = false := by rw [sw hT hi2]; exact hq.par
  have fin : m_leaf_at [.str (St T), .int i] Xd Q := sp_leaf_at (l := .nm w) hT hi hw hq.no k
  simp_arith [e3, k_lp, e4, k_bl, k_and]
  have e5 : Txt.startswith3 (St T) (St [32]) (i + (w.length : Int)) = false ∨ (Txt.startswith3 (St T) (St [32]) (i + (w.length : Int)) = true ∧ Txt.startswith3 (St T) (St [32, 38, 32]) (i + (w.length : Int)) = true) := by
    rw [sw hT hi2, sw hT hi2]
    exact hq.and
  rcases e5 with e5 | ⟨e5, e6⟩
  · simp_arith [e5]
    cases decide (St w = Str.ofString "mix") <;> cases decide (St w = Str.ofString "half") <;> exact fin
  · simp_arith [e5, e6]
    cases decide (St w = Str.ofString "mix") <;> cases decide (St w = Str.ofString "half") <;> exact fin
theorem sp_word_vr {tm : DFn} {T p w q : List Nat} {i r : Int} (hT : T = p ++ 63 :: w ++ q) (hi : i = p.length) (hw : isNm w) (hq : fol q) (k : Q (.tup [(Lf.vr w).d, .int (i + (63 :: w).length)])) : m_word_at tm [.str (St T), .int i, .int r] Xd Q := by
  simp_arith [m_word_at]
  have hT0 : T = p ++ [] ++ (63 :: w ++ q) := by rw [hT]; simp
  refine sp_word_end (w := []) hT0 hi (by simp) (by rintro c r e; cases e; omega) ?_
  have e3 : L2.cutS (St T) (some i) (some (i + 0)) = St [] := cut_is (w := []) hT0 hi (by simp)
  have e4 : decide (St [] = Str.ofString "mix") = false := decide_eq_false (by rw [k_mixw, St_inj]; simp)
  have e5 : decide (St [] = Str.ofString "half") = false := decide_eq_false (by rw [k_halfw, St_inj]; simp)
  simp_arith [e3, e4, e5]
  exact sp_leaf_at (l := .vr w) hT hi hw hq.no k
theorem sp_term_at : ∀ (t : Pt) (n : Nat) (T p q : List Nat) (i r : Int) (Xd : Err → Prop) (Q : D → Prop), T = p ++ t.wd ++ q → i = p.length → t.ok → t.depth ≤ r → t.depth ≤ n → fol q → Q (.tup [t.d, .int (i + t.wd.length)]) → m_term_at n [.str (St T), .int i, .int r] Xd Q
  | t, 0, T, p, q, i, r, Xd, Q, hT, hi, h, hr, hn, hq, k => by
    have := Pt.dpos t
    omega
  | .lf (.nm s), n + 1, T, p, q, i, r, Xd, Q, hT, hi, h, hr, hn, hq, k => by
    simp only [Pt.wd, Pt.depth, Pt.d, Lf.wd, Lf.d] at hT hr hn k
    have e0 : decide (r = 0) = false := decide_eq_false (by omega)
    obtain ⟨c, w, hs, hc⟩ := isNm.cons h
    have hT2 : T = p ++ c :: (w ++ q) := by rw [hT, hs]; simp
    have b1 := nobr (x := 40) hT2 hi (by omega)
    have b2 := nobr (x := 91) hT2 hi (by omega)
    have b3 := nobr (x := 123) hT2 hi (by omega)
    simp_arith [m_term_at, e0, k_lp, k_lb, k_lc, b1, b2, b3]
    exact sp_word_nm hT hi h hq k
  | .lf (.vr s), n + 1, T, p, q, i, r, Xd, Q, hT, hi, h, hr, hn, hq, k => by
    simp only [Pt.wd, Pt.depth, Pt.d, Lf.wd] at hT hr hn k
    have e0 : decide (r = 0) = false := decide_eq_false (by omega)
    have hT2 : T = p ++ 63 :: (s ++ q) := by rw [hT]; simp
    have b1 := nobr (x := 40) hT2 hi (by omega)
    have b2 := nobr (x := 91) hT2 hi (by omega)
    have b3 := nobr (x := 123) hT2 hi (by omega)
    simp_arith [m_term_at, e0, k_lp, k_lb, k_lc, b1, b2, b3]
    exact sp_word_vr hT hi h hq k
  | .pair a b, n + 1, T, p, q, i, r, Xd, Q, hT, hi, h, hr, hn, hq, k => by
    simp only [Pt.wd, Pt.depth, Pt.d] at hT hr hn k
    have e0 : decide (r = 0) = false := decide_eq_false (by have := Pt.dpos a; omega)
    have b1 := isbr (T := T) (p := p) (c := 40) (r := a.wd ++ [32, 38, 32] ++ b.wd ++ [41] ++ q) (by rw [hT]; simp) hi
    simp_arith [m_term_at, e0, k_lp, b1, m_round_at]
    refine sp_term_at a n T (p ++ [40]) ([32, 38, 32] ++ b.wd ++ [41] ++ q) _ _ _ _ (by rw [hT]; simp) (by simp; omega) h.1 (by omega) (by omega) fol_and ?_
    have b2 : Txt.startswith3 (St T) (St [32, 38, 32]) (i + 1 + (a.wd.length : Int)) = true := by
      rw [sw (p := p ++ [40] ++ a.wd) (r := [32, 38, 32] ++ (b.wd ++ [41] ++ q)) (by rw [hT]; simp) (by simp; omega), List.isPrefixOf_iff_prefix]
      exact ⟨_, rfl⟩
    simp_arith [k_and, b2, St_len]
    refine sp_term_at b n T (p ++ [40] ++ a.wd ++ [32, 38, 32]) ([41] ++ q) _ _ _ _ (by rw [hT]; simp) (by simp; omega) h.2 (by omega) (by omega) fol_c ?_
    simp_arith [k_rp]
    refine sp_behind (p := p ++ [40] ++ a.wd ++ [32, 38, 32] ++ b.wd) (q := q) (by rw [hT]; simp) (by simp; omega) ?_
    simp_arith [true_and]
    have e : i + (([40] ++ a.wd ++ [32, 38, 32] ++ b.wd ++ [41]).length : Int) = i + 1 + (a.wd.length : Int) + 3 + (b.wd.length : Int) + ((0 + 1 : Nat) : Int) := by simp; omega
    rw [e] at k
    exact k
  | .box a b, n + 1, T, p, q, i, r, Xd, Q, hT, hi, h, hr, hn, hq, k => by
    simp only [Pt.wd, Pt.depth, Pt.d] at hT hr hn k
    have e0 : decide (r = 0) = false := decide_eq_false (by have := Pt.dpos a; omega)
    have b0 := nobr (T := T) (p := p) (c := 91) (x := 40) (r := b.wd ++ [93] ++ Pt.key a.wd a ++ q) (by rw [hT]; simp) hi (by decide)
    have b1 := isbr (T := T) (p := p) (c := 91) (r := b.wd ++ [93] ++ Pt.key a.wd a ++ q) (by rw [hT]; simp) hi
    simp_arith [m_term_at, e0, k_lp, k_lb, b0, b1, m_box_at]
    refine sp_term_at b n T (p ++ [91]) ([93] ++ Pt.key a.wd a ++ q) _ _ _ _ (by rw [hT]; simp) (by simp; omega) h.2 (by omega) (by omega) fol_c ?_
    simp_arith [k_rb]
    refine sp_behind (p := p ++ [91] ++ b.wd) (q := Pt.key a.wd a ++ q) (by rw [hT]; simp) (by simp; omega) ?_
    rcases shape a with ⟨s, rfl⟩ | ⟨tag, l, e1, e2, e3⟩
    · obtain ⟨c, w, hs, hc⟩ := Lf.first h.1
      simp only [Pt.key, Pt.wd] at hT k
      have b2 := nobr (T := T) (p := p ++ [91] ++ b.wd ++ [93]) (i := i + 1 + (b.wd.length : Int) + 1) (c := c) (x := 60) (r := w ++ q) (by rw [hT, hs]; simp) (by simp; omega) (by omega)
      have n1 : (([93] : List Nat).length : Int) = 1 := rfl
      rw [n1]
      simp_arith [k_lt, b2]
      refine sp_leaf_at (p := p ++ [91] ++ b.wd ++ [93]) (l := s) (q := q) (by rw [hT]; simp) (by simp; omega) h.1 hq.no ?_
      simp_arith [true_and]
      have e : i + (([91] ++ b.wd ++ [93] ++ s.wd).length : Int) = i + 1 + (b.wd.length : Int) + 1 + (s.wd.length : Int) := by simp; omega
      rw [e] at k
      exact k
    · rw [e3] at hT k
      have b2 := isbr (T := T) (p := p ++ [91] ++ b.wd ++ [93]) (i := i + 1 + (b.wd.length : Int) + 1) (c := 60) (r := a.wd ++ [62] ++ q) (by rw [hT]; simp) (by simp; omega)
      have n1 : (([93] : List Nat).length : Int) = 1 := rfl
      rw [n1]
      simp_arith [k_lt, b2]
      refine sp_term_at a n T (p ++ [91] ++ b.wd ++ [93] ++ [60]) ([62] ++ q) _ _ _ _ (by rw [hT]; simp) (by simp; omega) h.1 (by omega) (by omega) fol_c ?_
      simp_arith [k_gt]
      refine sp_behind (p := p ++ [91] ++ b.wd ++ [93] ++ [60] ++ a.wd) (q := q) (by rw [hT]; simp) (by simp; omega) ?_
      simp_arith [true_and]
      have e : i + (([91] ++ b.wd ++ [93] ++ ([60] ++ a.wd ++ [62])).length : Int) = i + 1 + (b.wd.length : Int) + 1 + 1 + (a.wd.length : Int) + ((0 + 1 : Nat) : Int) := by simp; omega
      rw [e] at k
      exact k
  | .half s, n + 1, T, p, q, i, r, Xd, Q, hT, hi, h, hr, hn, hq, k => by
    simp only [Pt.wd, Pt.depth, Pt.d] at hT hr hn k
    have e0 : decide (r = 0) = false := decide_eq_false (by omega)
    have hT2 : T = p ++ 104 :: ([97, 108, 102, 32] ++ s.wd ++ q) := by rw [hT]; simp
    have b1 := nobr (x := 40) hT2 hi (by omega)
    have b2 := nobr (x := 91) hT2 hi (by omega)
    have b3 := nobr (x := 123) hT2 hi (by omega)
    simp_arith [m_term_at, e0, k_lp, k_lb, k_lc, b1, b2, b3, m_word_at]
    obtain ⟨c, w, hs, hc⟩ := Lf.first h
    refine sp_word_end (p := p) (w := [104, 97, 108, 102]) (q := [32] ++ s.wd ++ q) (by rw [hT]; simp) hi (by simp) (by rintro c r e; cases e; omega) ?_
    have e3 : L2.cutS (St T) (some i) (some (i + (([104, 97, 108, 102] : List Nat).length : Int))) = St [104, 97, 108, 102] := cut_is (p := p) (q := [32] ++ s.wd ++ q) (by rw [hT]; simp) hi rfl
    have n1 : (([104, 97, 108, 102] : List Nat).length : Int) = 4 := rfl
    rw [n1] at e3 ⊢
    have e4 : decide (St [104, 97, 108, 102] = Str.ofString "mix") = false := by rw [← k_halfw]; exact t_half_mix
    have e5 : decide (St [104, 97, 108, 102] = Str.ofString "half") = true := by rw [k_halfw]; exact decide_eq_true rfl
    have e6 := isbr (T := T) (p := p ++ [104, 97, 108, 102]) (i := i + 4) (c := 32) (r := s.wd ++ q) (by rw [hT]; simp) (by simp; omega)
    have e7 : Txt.startswith3 (St T) (St [32, 38, 32]) (i + 4) = false := by
      rw [sw (p := p ++ [104, 97, 108, 102]) (r := 32 :: c :: (w ++ q)) (by rw [hT, hs]; simp) (by simp; omega)]
      have : (38 : Nat) ≠ c := by omega
      simp [List.isPrefixOf, this]
    simp_arith [e3, e4, e5, k_bl, k_and, e6, e7]
    refine sp_leaf_at (p := p ++ [104, 97, 108, 102, 32]) (l := s) (q := q) (by rw [hT]; simp) (by simp; omega) h hq.no ?_
    simp_arith [true_and]
    have e : i + (([104, 97, 108, 102, 32] ++ s.wd).length : Int) = i + 4 + 1 + (s.wd.length : Int) := by simp; omega
    rw [e] at k
    exact k
  | .shut s a, n + 1, T, p, q, i, r, Xd, Q, hT, hi, h, hr, hn, hq, k => by
    simp only [Pt.wd, Pt.depth, Pt.d] at hT hr hn k
    have e0 : decide (r = 0) = false := decide_eq_false (by omega)
    have hT2 : T = p ++ 123 :: (a.wd ++ [125] ++ s.wd ++ q) := by rw [hT]; simp
    have b1 := nobr (x := 40) hT2 hi (by omega)
    have b2 := nobr (x := 91) hT2 hi (by omega)
    have b3 := isbr hT2 hi
    simp_arith [m_term_at, e0, k_lp, k_lb, k_lc, b1, b2, b3, m_shut_at]
    refine sp_term_at a n T (p ++ [123]) ([125] ++ s.wd ++ q) _ _ _ _ (by rw [hT]; simp) (by simp; omega) h.2 (by omega) (by omega) fol_c ?_
    simp_arith [k_rc]
    refine sp_behind (p := p ++ [123] ++ a.wd) (q := s.wd ++ q) (by rw [hT]; simp) (by simp; omega) ?_
    simp_arith [true_and]
    refine sp_leaf_at (p := p ++ [123] ++ a.wd ++ [125]) (l := s) (q := q) (by rw [hT]; simp) (by simp; omega) h.1 hq.no ?_
    simp_arith [true_and]
    have e : i + (([123] ++ a.wd ++ [125] ++ s.wd).length : Int) = i + 1 + (a.wd.length : Int) + ((0 + 1 : Nat) : Int) + (s.wd.length : Int) := by simp; omega
    rw [e] at k
    exact k
  | .mark s a, n + 1, T, p, q, i, r, Xd, Q, hT, hi, h, hr, hn, hq, k => by
    simp only [Pt.wd, Pt.depth, Pt.d] at hT hr hn k
    have e0 : decide (r = 0) = false := decide_eq_false (by omega)
    have b1 := isbr (T := T) (p := p) (c := 40) (r := a.wd ++ [33] ++ s.wd ++ [41] ++ q) (by rw [hT]; simp) hi
    simp_arith [m_term_at, e0, k_lp, b1, m_round_at]
    refine sp_term_at a n T (p ++ [40]) ([33] ++ s.wd ++ [41] ++ q) _ _ _ _ (by rw [hT]; simp) (by simp; omega) h.2 (by omega) (by omega) fol_c ?_
    have b2 : Txt.startswith3 (St T) (St [32, 38, 32]) (i + 1 + (a.wd.length : Int)) = false := by
      rw [sw (p := p ++ [40] ++ a.wd) (r := 33 :: (s.wd ++ [41] ++ q)) (by rw [hT]; simp) (by simp; omega)]
      simp [List.isPrefixOf]
    have b3 := isbr (T := T) (p := p ++ [40] ++ a.wd) (i := i + 1 + (a.wd.length : Int)) (c := 33) (r := s.wd ++ [41] ++ q) (by rw [hT]; simp) (by simp; omega)
    simp_arith [k_and, b2, k_ex, b3]
    refine sp_leaf_at (p := p ++ [40] ++ a.wd ++ [33]) (l := s) (q := [41] ++ q) (by rw [hT]; simp) (by simp; omega) h.1 (by rintro c r e; cases e; omega) ?_
    simp_arith [k_rp]
    refine sp_behind (p := p ++ [40] ++ a.wd ++ [33] ++ s.wd) (q := q) (by rw [hT]; simp) (by simp; omega) ?_
    simp_arith [true_and]
    have e : i + (([40] ++ a.wd ++ [33] ++ s.wd ++ [41]).length : Int) = i + 1 + (a.wd.length : Int) + 1 + (s.wd.length : Int) + ((0 + 1 : Nat) : Int) := by simp; omega
    rw [e] at k
    exact k
  | .mix a, n + 1, T, p, q, i, r, Xd, Q, hT, hi, h, hr, hn, hq, k => by
    simp only [Pt.wd, Pt.depth, Pt.d] at hT hr hn k
    have e0 : decide (r = 0) = false := decide_eq_false (by have := Pt.dpos a; omega)
    have hT2 : T = p ++ 109 :: ([105, 120, 40] ++ a.wd ++ [41] ++ q) := by rw [hT]; simp
    have b1 := nobr (x := 40) hT2 hi (by omega)
    have b2 := nobr (x := 91) hT2 hi (by omega)
    have b3 := nobr (x := 123) hT2 hi (by omega)
    simp_arith [m_term_at, e0, k_lp, k_lb, k_lc, b1, b2, b3, m_word_at]
    refine sp_word_end (p := p) (w := [109, 105, 120]) (q := [40] ++ a.wd ++ [41] ++ q) (by rw [hT]; simp) hi (by simp) (by rintro c r e; cases e; omega) ?_
    have e3 : L2.cutS (St T) (some i) (some (i + (([109, 105, 120] : List Nat).length : Int))) = St [109, 105, 120] := cut_is (p := p) (q := [40] ++ a.wd ++ [41] ++ q) (by rw [hT]; simp) hi rfl
    have n1 : (([109, 105, 120] : List Nat).length : Int) = 3 := rfl
    rw [n1] at e3 ⊢
    have e5 : decide (St [109, 105, 120] = Str.ofString "mix") = true := by rw [k_mixw]; exact decide_eq_true rfl
    have e6 := isbr (T := T) (p := p ++ [109, 105, 120]) (i := i + 3) (c := 40) (r := a.wd ++ [41] ++ q) (by rw [hT]; simp) (by simp; omega)
    simp_arith [e3, e5, k_lp, e6]
    refine sp_term_at a n T (p ++ [109, 105, 120, 40]) ([41] ++ q) _ _ _ _ (by rw [hT]; simp) (by simp; omega) h (by omega) (by omega) fol_c ?_
    simp_arith [k_rp]
    refine sp_behind (p := p ++ [109, 105, 120, 40] ++ a.wd) (q := q) (by rw [hT]; simp) (by simp; omega) ?_
    simp_arith [true_and]
    have e : i + (([109, 105, 120, 40] ++ a.wd ++ [41]).length : Int) = i + 3 + 1 + (a.wd.length : Int) + ((0 + 1 : Nat) : Int) := by simp; omega
    rw [e] at k
    exact k
end
end KP
namespace KP
open PySem PyProof.Rows HD
section
variable {Xd : Err → Prop} {Q : D → Prop}
/-! ### reading any text -/
end
end KP
namespace KP
open PySem PyProof.Rows HD
section
variable {Xd : Err → Prop} {Q : D → Prop}
theorem po_read_any {t : Pt} {o : Bool} (h : t.ok) (hd : t.depth ≤ 12) (hs : t.size ≤ 40) (q : Q (if (o || t.cl) = true then t.d else .non)) : m_read_any [.str (St t.wd), .bl o] Xd Q := by
  simp_arith [m_read_any]
  refine sp_term_at t _ _ [] [] _ _ _ _ (by simp) rfl h hd (by omega) (.inl rfl) ?_
  simp_arith [true_and]
  refine sp_has_form h ?_
  rw [cz_of hd, decide_eq_true hs, Bool.and_true]
  cases z : (o || t.cl) with
  | false =>
    rw [z] at q
    simp_arith [true_and]
    exact q
  | true =>
    rw [z] at q
    simp_arith [true_and]
    refine sp_m_spelled t _ _ _ h hd (by omega) ?_
    simp_arith [true_and]
    exact q
theorem nnP (t : Pt) : isNoneD t.d = false := by
  cases t with
  | lf l => cases l <;> rfl
  | _ => rfl
theorem po_read_term {t : Pt} (h : t.ok) (hd : t.depth ≤ 12) (hs : t.size ≤ 40) (k0 : t.cl = false → Xd ("BadText", .int 0)) (k1 : t.cl = true → Q t.d) : m_read_term [.str (St t.wd)] Xd Q := by
  simp_arith [m_read_term]
  refine po_read_any h hd hs ?_
  cases z : t.cl with
  | false =>
    simp_arith [Bool.or_false, e_nnN, dRaise]
    exact k0 z
  | true =>
    simp_arith [Bool.or_true, nnP t]
    exact k1 z
end
end KP
namespace KP
open PySem PyProof.Rows HD
section
variable {Xd : Err → Prop} {Q : D → Prop}
end
end KP
namespace HD
open PySem PyProof.Rows
section
variable {Xd : Err → Prop} {Q : D → Prop}
theorem sp_pick {xs : List D} {Xd : Err → Prop} {Q : D → Prop} (h0 : 0 < xs.length) (h1 : xs.length < 1000000) (k : ∀ x ∈ xs, Q x) : m_law_pick [.bag, .lst xs] Xd Q := by
  simp_arith [m_law_pick]
  rw [e_draw (by omega) (by omega)]
  intro r h2 h3
  simp_arith [true_and]
  have hr : r.toNat < xs.length := by omega
  refine ⟨xs[r.toNat], ?_, k _ (List.getElem_mem _)⟩
  have := at_nat (l := xs) (i := r.toNat) (x := xs[r.toNat]) (by simp)
  rwa [Int.toNat_of_nonneg h2] at this
/-- all names of t stand in l -/
def Tm.over (l : List (List Nat)) : Tm → Prop
  | .nm s => s ∈ l
  | .pair a b => a.over l ∧ b.over l
  | .box a b => a.over l ∧ b.over l
  | .half s => s ∈ l
  | .shut s a => s ∈ l ∧ a.over l
  | .mark s a => s ∈ l ∧ a.over l
  | .mix a => a.over l
theorem Tm.over_ok {l : List (List Nat)} (h : ∀ s ∈ l, isNm s) : ∀ t : Tm, t.over l → t.ok
  | .nm s, z => h s z
  | .pair a b, z => ⟨over_ok h a z.1, over_ok h b z.2⟩
  | .box a b, z => ⟨over_ok h a z.1, over_ok h b z.2⟩
  | .half s, z => h s z
  | .shut s a, z => ⟨h s z.1, over_ok h a z.2⟩
  | .mark s a, z => ⟨h s z.1, over_ok h a z.2⟩
  | .mix a, z => over_ok h a z
/-- a row of names -/
def Nms (l : List (List Nat)) : Prop := (∀ s ∈ l, isNm s) ∧ 0 < l.length ∧ l.length < 1000
def nmD (l : List (List Nat)) : List D := l.map fun s => .str (St s)
theorem sp_pickN {l : List (List Nat)} {Xd : Err → Prop} {Q : D → Prop} (h : Nms l) (k : ∀ s, s ∈ l → Q (Tm.nm s).d) : m_law_pick [.bag, .lst (nmD l)] Xd Q := by
  refine sp_pick (by simp [nmD]; exact h.2.1) (by simp [nmD]; have := h.2.2; omega) fun x hx => ?_
  obtain ⟨s, hs, rfl⟩ := List.mem_map.mp hx
  exact k s hs
theorem sp_leaf {l : List (List Nat)} {Xd : Err → Prop} {Q : D → Prop} (h : Nms l) (k : ∀ s, s ∈ l → Q (Tm.nm s).d) : m_law_leaf [.bag, .lst (nmD l), .lst []] Xd Q := by
  simp_arith [m_law_leaf]
  exact sp_pickN h k
theorem sp_pattern {l : List (List Nat)} (h : Nms l) : ∀ (k n : Nat) (i : Int) (Xd : Err → Prop) (Q : D → Prop), i = (k : Int) + 1 → k < n → (∀ t : Tm, t.over l → t.depth ≤ (k : Int) + 1 → t.size ≤ (2 ^ k : Nat) → Q t.d) → m_law_pattern n [.bag, .lst (nmD l), .lst [], .int i] Xd Q
  | k, 0, i, Xd, Q, hi, hn, q => by omega
  | k, n + 1, i, Xd, Q, hi, hn, q => by
    have p0 := Nat.pow_pos (n := k) (show 0 < 2 by decide)
    have leaf : ∀ s, s ∈ l → Q (Tm.nm s).d := fun s hs => q (.nm s) hs (by simp only [Tm.depth]; omega) (by simp only [Tm.size]; omega)
    simp_arith [m_law_pattern, e_draw]
    intro r h1 h2
    by_cases g1 : decide (i = 1) = true
    · simp_arith [g1]
      exact sp_leaf h leaf
    · have g1 : decide (i = 1) = false := by simpa using g1
      have g1' : i ≠ 1 := of_decide_eq_false g1
      cases k with
      | zero => omega
      | succ k =>
      have rec_ := fun (Q : D → Prop) q => sp_pattern h k n (i - 1) (fun e => Xd e) Q (by omega) (by omega) q
      have pk : (2 ^ (k + 1) : Nat) = 2 * 2 ^ k := by rw [Nat.pow_succ]; omega
      have pp := Nat.pow_pos (n := k) (show 0 < 2 by decide)
      by_cases c1 : decide (r < 4) = true
      · simp_arith [g1, c1]
        exact sp_leaf h leaf
      by_cases c2 : decide (r < 7) = true
      · simp_arith [g1, c1, c2]
        refine rec_ _ fun a a1 a2 a3 => ?_
        refine rec_ _ fun b b1 b2 b3 => ?_
        exact q (.pair a b) ⟨a1, b1⟩ (by simp only [Tm.depth]; omega) (by simp only [Tm.size]; omega)
      by_cases c3 : decide (r < 10) = true
      · simp_arith [g1, c1, c2, c3, e_draw]
        refine sp_leaf h fun s hs => ?_
        intro z z1 z2
        by_cases c4 : decide (z = 0) = true
        · simp_arith [c4]
          refine rec_ _ fun a a1 a2 a3 => ?_
          refine rec_ _ fun b b1 b2 b3 => ?_
          exact q (.box a b) ⟨a1, b1⟩ (by simp only [Tm.depth]; omega) (by simp only [Tm.size]; omega)
        · simp_arith [c4]
          refine rec_ _ fun b b1 b2 b3 => ?_
          exact q (.box (.nm s) b) ⟨hs, b1⟩ (by simp only [Tm.depth]; have := Tm.dpos b; omega) (by simp only [Tm.size]; omega)
      simp_arith [g1, c1, c2, c3]
      refine sp_leaf h fun s hs => ?_
      by_cases c4 : decide (r = 10) = true
      · simp_arith [c4]
        exact q (.half s) hs (by simp only [Tm.depth]; omega) (by simp only [Tm.size]; omega)
      simp_arith [c4]
      refine rec_ _ fun a a1 a2 a3 => ?_
      by_cases c5 : decide (r = 11) = true
      · simp_arith [c5]
        exact q (.shut s a) ⟨hs, a1⟩ (by simp only [Tm.depth]; have := Tm.dpos a; omega) (by simp only [Tm.size]; omega)
      by_cases c6 : decide (r = 12) = true
      · simp_arith [c5, c6]
        exact q (.mark s a) ⟨hs, a1⟩ (by simp only [Tm.depth]; have := Tm.dpos a; omega) (by simp only [Tm.size]; omega)
      simp_arith [c5, c6]
      exact q (.mix a) a1 (by simp only [Tm.depth]; omega) (by simp only [Tm.size]; omega)
theorem sp_term {l : List (List Nat)} (h : Nms l) (k : Nat) (i : Int) {Xd : Err → Prop} {Q : D → Prop} (hi : i = (k : Int) + 1) (hk : k < 8) (q : ∀ t : Tm, t.over l → t.depth ≤ (k : Int) + 1 → t.size ≤ (2 ^ k : Nat) → Q t.d) : m_law_term [.bag, .lst (nmD l), .int i] Xd Q := by
  simp_arith [m_law_term, Nat.zero_le]
  exact sp_pattern h k 8 i _ _ hi hk q
/-! ### the law's names -/
theorem letters {c : Nat} : c ∈ ("abcdefghijklmnoprstuvwxyz" : Str).cps.toList → 97 ≤ c ∧ c ≤ 122 := by
  have e : ("abcdefghijklmnoprstuvwxyz" : Str).cps.toList = [97, 98, 99, 100, 101, 102, 103, 104, 105, 106, 107, 108, 109, 110, 111, 112, 114, 115, 116, 117, 118, 119, 120, 121, 122] := by kernel_rfl
  rw [e]
  simp only [List.mem_cons, List.not_mem_nil, or_false]
  omega
theorem lc_draw {de : DE} {ρ : Rho} {R : List D → Prop} (hde : ∀ (d : D) (S : D → Prop), (∀ c, 97 ≤ c ∧ c ≤ 122 → S (.str (St [c]))) → de (ρ.set 7 (some (.val d))) (fun _ => False) S) : ∀ (ds : List D) (acc : List Nat), (∀ c ∈ acc, 97 ≤ c ∧ c ≤ 122) → acc.length + ds.length ≤ 8 → (∀ l : List Nat, l.length = acc.length + ds.length → (∀ c ∈ l, 97 ≤ c ∧ c ≤ 122) → R (l.map fun c => .str (St [c]))) → lcD (tName 7) dYes de ds (acc.map fun c => .str (St [c])) ρ R
  | [], acc, ha, hl, k => by
    simp_arith [true_and]
    exact k acc (by simp) ha
  | d :: r, acc, ha, hl, k => by
    simp_arith [true_and]
    refine hde d _ fun c hc => ⟨?_, ?_⟩
    · simp at hl ⊢
      exact Nat.lt_of_lt_of_le (show acc.length < 9 by omega) (by decide)
    · have e : (acc.map fun c => D.str (St [c])) ++ [D.str (St [c])] = (acc ++ [c]).map fun c => D.str (St [c]) := by simp
      rw [e]
      refine lc_draw hde r (acc ++ [c]) (fun x hx => ?_) (by simp at hl ⊢; omega) (fun l h1 h2 => k l (by simp at h1 ⊢; omega) h2)
      rcases List.mem_append.mp hx with z | z
      · exact ha x z
      · have : x = c := by simpa using z
        rw [this]
        exact hc
theorem k_empty : (Str.ofString "").cps = #[] := by kernel_rfl
theorem join_signs (l : List Nat) : Txt.join (Str.ofString "") (l.map fun c => St [c]) = St l := by
  have key : ∀ (r : List Nat) (x : List Nat), (r.map fun c => St [c]).foldl (fun acc p => acc ++ (Str.ofString "").cps ++ p.cps) x.toArray = (x ++ r).toArray := by
    intro r
    induction r with
    | nil => intro x; simp
    | cons c r ih =>
      intro x
      have := ih (x ++ [c])
      rw [List.map_cons, List.foldl_cons]
      have e : x.toArray ++ (Str.ofString "").cps ++ (St [c]).cps = (x ++ [c]).toArray := by
        rw [k_empty]
        simp [HD.St]
      rw [e, this]
      simp
  unfold Txt.join PySem.Builtin.Str.glued
  cases l with
  | nil => rfl
  | cons c r =>
    have := key r [c]
    simp only [List.map_cons, List.drop_succ_cons, List.drop_zero, List.headD_cons]
    show (⟨(r.map fun c => St [c]).foldl (fun acc p => acc ++ (Str.ofString "").cps ++ p.cps) [c].toArray⟩ : Str) = _
    rw [this]
    rfl
theorem lc_filter {tg : DG} {u : DT} {a : DE} {ρ : Rho} {R : List D → Prop} (f : D → D) (g : D → Bool) : ∀ (ds acc : List D), (∀ d ∈ ds, ∀ (S : D → Prop) (N : Prop), (if g d = true then S (f d) else N) → tg d ρ fun ρ1 => u ρ1 (fun _ => False) fun c => if c = true then a ρ1 (fun _ => False) S else N) →
    acc.length + ds.length ≤ sizeLine → R (acc ++ (ds.filter g).map f) → lcD tg u a ds acc ρ R
  | [], acc, _, _, h => by simpa using h
  | d :: r, acc, hf, hl, h => by
    refine hf d (List.mem_cons_self ..) (fun y => acc.length < sizeLine ∧ lcD tg u a r (acc ++ [y]) ρ R) _ ?_
    cases z : g d with
    | true =>
      rw [if_pos rfl]
      rw [List.filter_cons_of_pos z] at h
      refine ⟨by simp at hl; omega, lc_filter f g r (acc ++ [f d]) (fun d' hd => hf d' (List.mem_cons_of_mem _ hd)) (by simp at hl ⊢; omega) (by simpa using h)⟩
    | false =>
      rw [if_neg (by simp)]
      rw [List.filter_cons_of_neg (by simp [z])] at h
      exact lc_filter f g r acc (fun d' hd => hf d' (List.mem_cons_of_mem _ hd)) (by simp at hl ⊢; omega) h
theorem few {α : Type} [DecidableEq α] : ∀ (cs L : List α), cs.Nodup → (∀ c ∈ cs, c ∈ L) → cs.length ≤ L.length
  | [], L, _, _ => Nat.zero_le _
  | c :: r, L, hn, h => by
    have hc := h c (List.mem_cons_self ..)
    have hn' := List.nodup_cons.mp hn
    have ih := few r (L.erase c) hn'.2 fun x hx => (List.mem_erase_of_ne (fun e => hn'.1 (by rw [← e]; exact hx))).mpr (h x (List.mem_cons_of_mem _ hx))
    rw [List.length_erase_of_mem hc] at ih
    have := List.length_pos_of_mem hc
    simp
    omega
def yOf : D → D
  | .str s => .str (s ++ Str.ofString "y")
  | d => d
def inL (L : List (List Nat)) (d : D) : Bool := (nmD L).any fun z => eqD z d
theorem k_y : Str.ofString "y" = St [121] := by kernel_rfl
theorem y_c {c : Nat} : (⟨#[c]⟩ : Str) ++ Str.ofString "y" = St [c, 121] := by
  rw [k_y]
  exact St_app [c] [121]
theorem in_mem {L : List (List Nat)} {w : List Nat} : inL L (.str (St w)) = true → w ∈ L := by
  intro h
  obtain ⟨z, hz, e⟩ := List.any_eq_true.mp h
  obtain ⟨s, hs, rfl⟩ := List.mem_map.mp hz
  rw [e_eqS] at e
  have := St_inj.mp (of_decide_eq_true e)
  rw [← this]
  exact hs
theorem mem_in {L : List (List Nat)} {w : List Nat} (h : w ∈ L) : inL L (.str (St w)) = true := List.any_eq_true.mpr ⟨_, List.mem_map.mpr ⟨w, h, rfl⟩, by simp⟩
/-- a name as the laws draw it -/
def DN (s : List Nat) : Prop := isNm s ∧ (s.length ≤ 3 ∨ s.length = 8 ∨ s ∈ [[104, 97, 108, 102], [109, 105, 120], [112, 97, 105, 114], [98, 111, 120], [118, 97, 114], [104, 101, 97, 114, 100]])
theorem flatN (L : List (List Nat)) : (nmD L).all flatD = true := by
  simp [nmD, flatD]
def letL : List Nat := [97, 98, 99, 100, 101, 102, 103, 104, 105, 106, 107, 108, 109, 110, 111, 112, 114, 115, 116, 117, 118, 119, 120, 121, 122]
theorem letL_eq : (Str.ofString "abcdefghijklmnoprstuvwxyz").cps.toList = letL := by kernel_rfl
theorem free_y {L : List (List Nat)} (h : L.length ≤ 20) : ∃ c r, c ∈ letL ∧ [c, 121] ∉ L ∧ ((letL.map fun c => D.str ⟨#[c]⟩).filter fun d => !inL L (yOf d)).map yOf = .str (St [c, 121]) :: r := by
  cases z : (letL.map fun c => D.str ⟨#[c]⟩).filter fun d => !inL L (yOf d) with
  | nil =>
    exfalso
    have all : ∀ w ∈ letL.map (fun c => [c, 121]), w ∈ L := by
      intro w hw
      obtain ⟨c, hc, rfl⟩ := List.mem_map.mp hw
      have := List.filter_eq_nil_iff.mp z (.str ⟨#[c]⟩) (List.mem_map.mpr ⟨c, hc, rfl⟩)
      refine in_mem ?_
      rw [← y_c]
      simpa [yOf] using this
    have := few _ _ (by decide) all
    have e : (letL.map fun c => [c, 121]).length = 25 := by decide
    omega
  | cons d r =>
    have hd : d ∈ (letL.map fun c => D.str ⟨#[c]⟩) := (List.mem_filter.mp (by rw [z]; exact List.mem_cons_self ..)).1
    obtain ⟨c, hc, rfl⟩ := List.mem_map.mp hd
    have hn := (List.mem_filter.mp (show D.str ⟨#[c]⟩ ∈ (letL.map fun c => D.str ⟨#[c]⟩).filter fun d => !inL L (yOf d) by rw [z]; exact List.mem_cons_self ..)).2
    refine ⟨c, r.map yOf, hc, fun hm => ?_, by rw [List.map_cons]; show D.str (_ ++ _) :: _ = _; rw [y_c]⟩
    have e : inL L (yOf (.str ⟨#[c]⟩)) = true := by
      show inL L (.str (_ ++ _)) = true
      rw [y_c]
      exact mem_in hm
    rw [e] at hn
    cases hn
def nTail : DS := (dSeq (dIfS (dTest (dOpOwn (HD.rIn false) (dVar 6) 3)) (dAsg 6 (dOp HD.rIx (dLc (dItems (dVar 2)) (tName 8) (dTest (dOpOwn (HD.rIn true) (dOp HD.rAdd (dVar 8) (dC (.str "y"))) 3)) (dOp HD.rAdd (dVar 8) (dC (.str "y"))) [8]) (dC (.int 0)))) dNext) (dAppend 3 (dVar 6)))
theorem sp_tail {De : DEnds} {L : List (List Nat)} {w : List Nat} {x4 x5 : Option Sl} {m : Int} (hL : L.length ≤ 20) (hw : DN w)
    (k : ∀ w', DN w' → w' ∉ L → De.nx [some (.val .bag), some (.val (.int m)), some (.val (.str "abcdefghijklmnoprstuvwxyz")), some (.own (.lst (nmD (L ++ [w'])))), x4, x5, some (.val (.str (St w'))), none, none]) :
    nTail De [some (.val .bag), some (.val (.int m)), some (.val (.str "abcdefghijklmnoprstuvwxyz")), some (.own (.lst (nmD L))), x4, x5, some (.val (.str (St w))), none, none] := by
  have hl2 : (nmD L).length < sizeLine := Nat.lt_of_le_of_lt (by simp [nmD]; exact hL) (show 20 < sizeLine by decide)
  have e0 : ((nmD L).any fun z => eqD z (.str (St w))) = inL L (.str (St w)) := rfl
  simp_arith [nTail, dOpOwn, Sl.own.injEq, Sl.val.injEq, flatN, flatD, true_or, e0]
  cases hin : inL L (.str (St w)) with
  | false =>
    simp_arith [dAppend, Sl.own.injEq, hl2]
    have := k w hw fun z => by rw [mem_in z] at hin; cases hin
    simp only [nmD, List.map_append, List.map_cons, List.map_nil] at this
    exact this
  | true =>
    simp_arith [true_and]
    rw [letL_eq]
    refine lc_filter yOf (fun d => !inL L (yOf d)) _ _ (fun d hd S N hS => ?_) (by simp; decide) ?_
    · obtain ⟨c, hc, rfl⟩ := List.mem_map.mp hd
      have ok : okS (St [c, 121]) := Tm.okS_St (by simp) (by
        intro x hx
        have hc2 : c ≤ 122 := by
          have : c ∈ (Str.ofString "abcdefghijklmnoprstuvwxyz").cps.toList := by rw [letL_eq]; exact hc
          exact (letters this).2
        simp at hx
        omega)
      have e1 : ((nmD L).any fun z => eqD z (.str (St [c, 121]))) = inL L (.str (St [c, 121])) := rfl
      simp only [yOf, y_c] at hS
      simp_arith [dOpOwn, Sl.own.injEq, Sl.val.injEq, flatN, flatD, true_or, y_c, ok, e1]
      cases hh : inL L (.str (St [c, 121])) with
      | true =>
        rw [hh] at hS
        exact hS
      | false =>
        rw [hh] at hS
        exact hS
    · obtain ⟨c, r, hc, hnL, e⟩ := free_y hL
      rw [List.nil_append, e]
      simp_arith [dAppend, Sl.own.injEq, hl2]
      have hc2 : c ∈ (Str.ofString "abcdefghijklmnoprstuvwxyz").cps.toList := by rw [letL_eq]; exact hc
      have := k [c, 121] ⟨⟨by simp, by simp, by
        have := letters hc2
        intro x hx
        simp at hx
        omega⟩, .inl (by simp)⟩ hnL
      simp only [nmD, List.map_append, List.map_cons, List.map_nil] at this
      exact this
theorem wd_half : ∃ w, D.str (Str.ofString "half") = .str (HD.St w) ∧ DN w := ⟨[104, 97, 108, 102], congrArg D.str (by kernel_rfl), ⟨by decide, by decide, by decide⟩, by decide⟩
theorem wd_mix : ∃ w, D.str (Str.ofString "mix") = .str (HD.St w) ∧ DN w := ⟨[109, 105, 120], congrArg D.str (by kernel_rfl), ⟨by decide, by decide, by decide⟩, by decide⟩
theorem wd_pair : ∃ w, D.str (Str.ofString "pair") = .str (HD.St w) ∧ DN w := ⟨[112, 97, 105, 114], congrArg D.str (by kernel_rfl), ⟨by decide, by decide, by decide⟩, by decide⟩
theorem wd_box : ∃ w, D.str (Str.ofString "box") = .str (HD.St w) ∧ DN w := ⟨[98, 111, 120], congrArg D.str (by kernel_rfl), ⟨by decide, by decide, by decide⟩, by decide⟩
theorem wd_var : ∃ w, D.str (Str.ofString "var") = .str (HD.St w) ∧ DN w := ⟨[118, 97, 114], congrArg D.str (by kernel_rfl), ⟨by decide, by decide, by decide⟩, by decide⟩
theorem wd_heard : ∃ w, D.str (Str.ofString "heard") = .str (HD.St w) ∧ DN w := ⟨[104, 101, 97, 114, 100], congrArg D.str (by kernel_rfl), ⟨by decide, by decide, by decide⟩, by decide⟩
theorem ones_sum : ∀ l : List Nat, ((l.map fun c => HD.St [c]).map (·.length)).sum = l.length
  | [] => rfl
  | c :: r => by
    simp only [List.map_cons, List.sum_cons, ones_sum r, St_len, List.length_cons, List.length_nil]
    omega
theorem at_mem {xs : List D} {r : Int} (h1 : 0 ≤ r) (h2 : r < xs.length) : ∃ x, L2.atI xs r = some x ∧ x ∈ xs := by
  have hr : r.toNat < xs.length := by omega
  refine ⟨xs[r.toNat], ?_, List.getElem_mem _⟩
  have := at_nat (l := xs) (i := r.toNat) (x := xs[r.toNat]) (by simp)
  rwa [Int.toNat_of_nonneg h1] at this
theorem names_loop {De : DEnds} {m : Int} : ∀ (ds : List D) (L : List (List Nat)) (x4 x5 x6 : Option Sl), (∀ s ∈ L, DN s) → L.Nodup → L.length + ds.length ≤ 20 → noOwn [x4, x5, x6] [0, 1, 2] = true →
    (∀ (L' : List (List Nat)) (x4 x5 x6 : Option Sl), (∀ s ∈ L', DN s) → L'.Nodup → L'.length = L.length + ds.length → De.nx [some (.val .bag), some (.val (.int m)), some (.val (.str "abcdefghijklmnoprstuvwxyz")), some (.own (.lst (nmD L'))), x4, x5, x6, none, none]) →
    forD (tName 4) (dSeq (dAsg 5 (dOp rIx (dLst (dCons (dC (.int 1)) (dCons (dC (.int 1)) (dCons (dC (.int 2)) (dCons (dC (.int 3)) (dCons (dC (.int 8)) dNil)))))) (dCall m_draw (dCons (dVar 0) (dCons (dC (.int 5)) dNil))))) (dSeq (dAsg 6 (dJoin (dC (.str "")) (dLc (dRng1 (dCons (dVar 5) dNil)) (tName 7) dYes (dOp rIx (dVar 2) (dCall m_draw (dCons (dVar 0) (dCons (dC (.int 25)) dNil)))) [7]))) (dSeq (dIfS (dTest (dOp rEq (dCall m_draw (dCons (dVar 0) (dCons (dC (.int 12)) dNil))) (dC (.int 0)))) (dAsg 6 (dOp rIx (dLst (dCons (dC (.str "half")) (dCons (dC (.str "mix")) (dCons (dC (.str "pair")) (dCons (dC (.str "box")) (dCons (dC (.str "var")) (dCons (dC (.str "heard")) dNil))))))) (dCall m_draw (dCons (dVar 0) (dCons (dC (.int 6)) dNil))))) dNext) nTail))) ds De [some (.val .bag), some (.val (.int m)), some (.val (.str "abcdefghijklmnoprstuvwxyz")), some (.own (.lst (nmD L))), x4, x5, x6, none, none]
  | [], L, x4, x5, x6, hL, hd, hl, hx, k => by
    simp_arith [e_forN]
    exact k L x4 x5 x6 hL hd (by simp)
  | d :: r, L, x4, x5, x6, hL, hd, hl, hx, k => by
    simp_arith [e_forC, e_draw]
    refine fun r1 h1 h2 => ?_
    obtain ⟨x, e1, hx1⟩ := at_mem (xs := [D.int 1, D.int 1, D.int 2, D.int 3, D.int 8]) h1 (by simpa using h2)
    have hz : ∃ z : Nat, x = .int z ∧ 1 ≤ z ∧ (z ≤ 3 ∨ z = 8) := by
      simp only [List.mem_cons, List.not_mem_nil, or_false] at hx1
      rcases hx1 with rfl | rfl | rfl | rfl | rfl
      · exact ⟨1, rfl, by omega, by omega⟩
      · exact ⟨1, rfl, by omega, by omega⟩
      · exact ⟨2, rfl, by omega, by omega⟩
      · exact ⟨3, rfl, by omega, by omega⟩
      · exact ⟨8, rfl, by omega, by omega⟩
    obtain ⟨z, rfl, z1, z2⟩ := hz
    have z3 : z ≤ 8 := by omega
    refine ⟨_, e1, ?_⟩
    simp_arith [dJoin]
    refine ⟨by omega, by omega, ?_⟩
    have il : (intsD 0 (z : Int).toNat).length = z := by simp [intsD]
    have next : ∀ w : List Nat, DN w → ∀ x5 : Option Sl, nTail { De with nx := forD (tName 4) (dSeq (dAsg 5 (dOp rIx (dLst (dCons (dC (.int 1)) (dCons (dC (.int 1)) (dCons (dC (.int 2)) (dCons (dC (.int 3)) (dCons (dC (.int 8)) dNil)))))) (dCall m_draw (dCons (dVar 0) (dCons (dC (.int 5)) dNil))))) (dSeq (dAsg 6 (dJoin (dC (.str "")) (dLc (dRng1 (dCons (dVar 5) dNil)) (tName 7) dYes (dOp rIx (dVar 2) (dCall m_draw (dCons (dVar 0) (dCons (dC (.int 25)) dNil)))) [7]))) (dSeq (dIfS (dTest (dOp rEq (dCall m_draw (dCons (dVar 0) (dCons (dC (.int 12)) dNil))) (dC (.int 0)))) (dAsg 6 (dOp rIx (dLst (dCons (dC (.str "half")) (dCons (dC (.str "mix")) (dCons (dC (.str "pair")) (dCons (dC (.str "box")) (dCons (dC (.str "var")) (dCons (dC (.str "heard")) dNil))))))) (dCall m_draw (dCons (dVar 0) (dCons (dC (.int 6)) dNil))))) dNext) nTail))) r De, ct := forD (tName 4) (dSeq (dAsg 5 (dOp rIx (dLst (dCons (dC (.int 1)) (dCons (dC (.int 1)) (dCons (dC (.int 2)) (dCons (dC (.int 3)) (dCons (dC (.int 8)) dNil)))))) (dCall m_draw (dCons (dVar 0) (dCons (dC (.int 5)) dNil))))) (dSeq (dAsg 6 (dJoin (dC (.str "")) (dLc (dRng1 (dCons (dVar 5) dNil)) (tName 7) dYes (dOp rIx (dVar 2) (dCall m_draw (dCons (dVar 0) (dCons (dC (.int 25)) dNil)))) [7]))) (dSeq (dIfS (dTest (dOp rEq (dCall m_draw (dCons (dVar 0) (dCons (dC (.int 12)) dNil))) (dC (.int 0)))) (dAsg 6 (dOp rIx (dLst (dCons (dC (.str "half")) (dCons (dC (.str "mix")) (dCons (dC (.str "pair")) (dCons (dC (.str "box")) (dCons (dC (.str "var")) (dCons (dC (.str "heard")) dNil))))))) (dCall m_draw (dCons (dVar 0) (dCons (dC (.int 6)) dNil))))) dNext) nTail))) r De, bk := De.nx } [some (.val .bag), some (.val (.int m)), some (.val (.str "abcdefghijklmnoprstuvwxyz")), some (.own (.lst (nmD L))), some (.val d), some (.val (.int z)), some (.val (.str (HD.St w))), none, none] := by
      intro w hw x5
      refine sp_tail (by simp at hl; omega) hw fun w' hw' hn' => ?_
      refine names_loop r (L ++ [w']) _ _ _ (fun s hs => ?_) (List.nodup_append.mpr ⟨hd, by simp, fun a ha b hb e => hn' (by rw [List.mem_singleton.mp hb] at e; rw [← e]; exact ha)⟩) (by simp at hl ⊢; omega) rfl fun L' x4 x5 x6 h1 h0 h2 => k L' x4 x5 x6 h1 h0 (by simp at h2 ⊢; omega)
      rcases List.mem_append.mp hs with q | q
      · exact hL s q
      · have : s = w' := by simpa using q
        rw [this]
        exact hw'
    refine lc_draw (fun d' S hS => ?_) _ [] (by simp) (by rw [il]; simp; omega) ?_
    · simp_arith [e_draw]
      intro r2 g1 g2
      have hr : r2.toNat < letL.length := by
        have : letL.length = 25 := by decide
        omega
      have e2 : L2.atI (Str.ofString "abcdefghijklmnoprstuvwxyz").cps.toList r2 = some letL[r2.toNat] := by
        rw [letL_eq]
        have := at_nat (l := letL) (i := r2.toNat) (x := letL[r2.toNat]) (by simp)
        rwa [Int.toNat_of_nonneg g1] at this
      refine ⟨_, e2, hS _ (letters ?_)⟩
      rw [letL_eq]
      exact List.getElem_mem _
    · intro l h3 h4
      rw [il] at h3
      have h3 : l.length = z := by simpa using h3
      have hl8 : DN l := ⟨⟨by omega, by omega, h4⟩, by omega⟩
      refine ⟨l.map fun c => HD.St [c], .inl (by simp [Function.comp_def]), ?_, ?_, ?_⟩
      · have e0 : ((l.map fun c => HD.St [c]).map (·.length)).sum = l.length := ones_sum l
        have e00 : (Str.ofString "").length = 0 := by kernel_rfl
        rw [e0, e00]
        omega
      · rw [join_signs]
        exact Tm.okS_St (by omega) (fun c hc => by have := h4 c hc; omega)
      · rw [join_signs]
        intro r3 g1 g2
        by_cases c0 : decide (r3 = 0) = true
        · simp_arith [c0]
          refine fun r4 g3 g4 => ?_
          obtain ⟨x, e1, hx1⟩ := at_mem (xs := [D.str (Str.ofString "half"), D.str (Str.ofString "mix"), D.str (Str.ofString "pair"), D.str (Str.ofString "box"), D.str (Str.ofString "var"), D.str (Str.ofString "heard")]) g3 (by simpa using g4)
          have hw : ∃ w, x = .str (HD.St w) ∧ DN w := by
            simp only [List.mem_cons, List.not_mem_nil, or_false] at hx1
            rcases hx1 with rfl | rfl | rfl | rfl | rfl | rfl
            · exact wd_half
            · exact wd_mix
            · exact wd_pair
            · exact wd_box
            · exact wd_var
            · exact wd_heard
          obtain ⟨w, rfl, hw⟩ := hw
          exact ⟨_, e1, next w hw none⟩
        · simp_arith [c0]
          exact next l hl8 none
theorem sp_names {m : Nat} {Xd : Err → Prop} {Q : D → Prop} (hm : m ≤ 20) (k : ∀ L : List (List Nat), (∀ s ∈ L, DN s) → L.Nodup → L.length = m → Q (.lst (nmD L))) : m_law_names [.bag, .int m] Xd Q := by
  simp_arith [m_law_names, Nat.zero_le]
  refine ⟨by omega, by omega, ?_⟩
  have il : (intsD 0 (m : Int).toNat).length = m := by simp [intsD]
  refine names_loop _ [] none none none (by simp) (by simp) (by rw [il]; simp; omega) rfl fun L' x4 x5 x6 h1 h0 h2 => ?_
  rw [il] at h2
  simp_arith [dFrz, Sl.own.injEq]
  exact k L' h1 h0 (by simpa using h2)
end
end HD
namespace HD
open PySem PyProof.Rows
namespace Tm
theorem sok {s : List Nat} (h : isNm s) : PyData.strOk (St s) = true := (Tm.okS_St (l := s) (by have := h.2.1; omega) fun c hc => by have := h.2.2 c hc; omega).2
theorem k_pair : PyData.strOk (Str.ofString "pair") = true := by decide +kernel
theorem k_box : PyData.strOk (Str.ofString "box") = true := by decide +kernel
theorem k_half : PyData.strOk (Str.ofString "half") = true := by decide +kernel
theorem k_shut : PyData.strOk (Str.ofString "shut") = true := by decide +kernel
theorem k_mark : PyData.strOk (Str.ofString "mark") = true := by decide +kernel
theorem k_mix : PyData.strOk (Str.ofString "mix") = true := by decide +kernel
theorem hk : ∀ t : Tm, t.ok → GD.hk (toP t.d) = true ∧ ((toP t.d).depth : Int) + 1 ≤ t.depth
  | nm s, h => by simp [d, toP, GD.hk, PyData.depth, depth, sok h]
  | pair a b, h => by
    have ha := hk a h.1
    have hb := hk b h.2
    simp only [d, toP, toPs, GD.hk, GD.hks, PyData.depth, PyData.depthAll, depth, ha.1, hb.1, Bool.and_self, Bool.and_true, Bool.true_and, true_and, k_pair]
    omega
  | box a b, h => by
    have ha := hk a h.1
    have hb := hk b h.2
    simp only [d, toP, toPs, GD.hk, GD.hks, PyData.depth, PyData.depthAll, depth, ha.1, hb.1, Bool.and_self, Bool.and_true, Bool.true_and, true_and, k_box]
    omega
  | half s, h => by simp [d, toP, toPs, GD.hk, GD.hks, PyData.depth, PyData.depthAll, depth, k_half, sok h]
  | shut s a, h => by
    have ha := hk a h.2
    simp only [d, toP, toPs, GD.hk, GD.hks, PyData.depth, PyData.depthAll, depth, ha.1, Bool.and_self, Bool.and_true, Bool.true_and, true_and, k_shut, sok h.1]
    omega
  | mark s a, h => by
    have ha := hk a h.2
    simp only [d, toP, toPs, GD.hk, GD.hks, PyData.depth, PyData.depthAll, depth, ha.1, Bool.and_self, Bool.and_true, Bool.true_and, true_and, k_mark, sok h.1]
    omega
  | mix a, h => by
    have ha := hk a h
    simp only [d, toP, toPs, GD.hk, GD.hks, PyData.depth, PyData.depthAll, depth, ha.1, Bool.and_self, Bool.and_true, Bool.true_and, true_and, k_mix]
    omega
theorem keyOk {t : Tm} (o : t.ok) (h : t.depth ≤ 9) : HD.keyOk t.d := ⟨(t.hk o).1, by have := (t.hk o).2; omega⟩
theorem tag_ne : (Str.ofString "pair" = Str.ofString "box") = False ∧ (Str.ofString "pair" = Str.ofString "shut") = False ∧ (Str.ofString "pair" = Str.ofString "mark") = False ∧ (Str.ofString "box" = Str.ofString "pair") = False ∧ (Str.ofString "box" = Str.ofString "shut") = False ∧ (Str.ofString "box" = Str.ofString "mark") = False ∧ (Str.ofString "shut" = Str.ofString "pair") = False ∧ (Str.ofString "shut" = Str.ofString "box") = False ∧ (Str.ofString "shut" = Str.ofString "mark") = False ∧ (Str.ofString "mark" = Str.ofString "pair") = False ∧ (Str.ofString "mark" = Str.ofString "box") = False ∧ (Str.ofString "mark" = Str.ofString "shut") = False ∧ (Str.ofString "half" = Str.ofString "mix") = False ∧ (Str.ofString "mix" = Str.ofString "half") = False := by
  refine ⟨?_, ?_, ?_, ?_, ?_, ?_, ?_, ?_, ?_, ?_, ?_, ?_, ?_, ?_⟩ <;> exact eq_false (by decide +kernel)
theorem inj : ∀ a b : Tm, a.d = b.d → a = b := by
  intro a
  induction a with
  | nm s =>
    intro b h
    cases b <;> simp [d, St_inj] at h ⊢
    exact h
  | pair x y ih1 ih2 =>
    intro b h
    cases b <;> simp [d, tag_ne] at h ⊢
    exact ⟨ih1 _ h.1, ih2 _ h.2⟩
  | box x y ih1 ih2 =>
    intro b h
    cases b <;> simp [d, tag_ne] at h ⊢
    exact ⟨ih1 _ h.1, ih2 _ h.2⟩
  | half s =>
    intro b h
    cases b <;> simp [d, tag_ne, St_inj] at h ⊢
    exact h
  | shut s x ih =>
    intro b h
    cases b <;> simp [d, tag_ne, St_inj] at h ⊢
    exact ⟨h.1, ih _ h.2⟩
  | mark s x ih =>
    intro b h
    cases b <;> simp [d, tag_ne, St_inj] at h ⊢
    exact ⟨h.1, ih _ h.2⟩
  | mix x ih =>
    intro b h
    cases b <;> simp [d, tag_ne] at h ⊢
    exact ih _ h
theorem eqs {x y : Str} : PyData.eqv (.str x) (.str y) = decide (x = y) := by
  simp only [PyData.eqv]
  exact Bool.eq_iff_iff.mpr (by simp)
theorem q_tt {xs ys : List PyData} : PyData.eqv (.tuple xs) (.tuple ys) = PyData.eqvAll xs ys := by simp only [PyData.eqv]
theorem q_st {x : Str} {ys : List PyData} : PyData.eqv (.str x) (.tuple ys) = false := by simp only [PyData.eqv]
theorem q_ts {x : Str} {ys : List PyData} : PyData.eqv (.tuple ys) (.str x) = false := by simp only [PyData.eqv]
theorem q_nn : PyData.eqvAll [] [] = true := by simp only [PyData.eqvAll]
theorem q_cc {x y : PyData} {xs ys : List PyData} : PyData.eqvAll (x :: xs) (y :: ys) = (PyData.eqv x y && PyData.eqvAll xs ys) := by simp only [PyData.eqvAll]
theorem q_nc {y : PyData} {ys : List PyData} : PyData.eqvAll [] (y :: ys) = false := by simp only [PyData.eqvAll]
theorem q_cn {y : PyData} {ys : List PyData} : PyData.eqvAll (y :: ys) [] = false := by simp only [PyData.eqvAll]
theorem eqb {x y : List Nat} : (St x == St y) = decide (x = y) := by
  rw [Bool.eq_iff_iff, beq_iff_eq, decide_eq_true_iff, St_inj]
theorem eqv2 : ∀ a b : Tm, PyData.eqv (toP a.d) (toP b.d) = decide (a = b) := by
  intro a
  induction a with
  | nm s =>
    intro b
    cases b with
    | nm t => simp [d, toP, eqs, St_inj]
    | _ => simp [d, toP, q_st]
  | pair x y ih1 ih2 =>
    intro b
    cases b <;> simp [d, toP, toPs, q_tt, q_st, q_ts, q_nn, q_cc, q_nc, q_cn, eqs, eqb, tag_ne, St_inj, ih1, ih2]
  | box x y ih1 ih2 =>
    intro b
    cases b <;> simp [d, toP, toPs, q_tt, q_st, q_ts, q_nn, q_cc, q_nc, q_cn, eqs, eqb, tag_ne, St_inj, ih1, ih2]
  | half s =>
    intro b
    cases b <;> simp [d, toP, toPs, q_tt, q_st, q_ts, q_nn, q_cc, q_nc, q_cn, eqs, eqb, tag_ne, St_inj]
  | shut s x ih =>
    intro b
    cases b <;> simp [d, toP, toPs, q_tt, q_st, q_ts, q_nn, q_cc, q_nc, q_cn, eqs, eqb, tag_ne, St_inj, ih]
  | mark s x ih =>
    intro b
    cases b <;> simp [d, toP, toPs, q_tt, q_st, q_ts, q_nn, q_cc, q_nc, q_cn, eqs, eqb, tag_ne, St_inj, ih]
  | mix x ih =>
    intro b
    cases b <;> simp [d, toP, toPs, q_tt, q_st, q_ts, q_nn, q_cc, q_nc, q_cn, eqs, eqb, tag_ne, St_inj, ih]
theorem eqd (a b : Tm) : eqD a.d b.d = decide (a = b) := eqv2 a b
theorem imm : ∀ t : Tm, HD.imm t.d = true
  | nm s => by simp [d, HD.imm]
  | pair a b => by simp [d, HD.imm, HD.imms, imm a, imm b]
  | box a b => by simp [d, HD.imm, HD.imms, imm a, imm b]
  | half s => by simp [d, HD.imm, HD.imms]
  | shut s a => by simp [d, HD.imm, HD.imms, imm a]
  | mark s a => by simp [d, HD.imm, HD.imms, imm a]
  | mix a => by simp [d, HD.imm, HD.imms, imm a]
theorem noD : ∀ t : Tm, HD.noD t.d = true
  | nm s => by simp [d, HD.noD]
  | pair a b => by simp [d, HD.noD, HD.noDs, noD a, noD b]
  | box a b => by simp [d, HD.noD, HD.noDs, noD a, noD b]
  | half s => by simp [d, HD.noD, HD.noDs]
  | shut s a => by simp [d, HD.noD, HD.noDs, noD a]
  | mark s a => by simp [d, HD.noD, HD.noDs, noD a]
  | mix a => by simp [d, HD.noD, HD.noDs, noD a]
end Tm
/-- the terms of L as keys -/
def dk (L : List Tm) : List (D × D) := L.map fun t => (t.d, .bl true)
def ins (L : List Tm) (t : Tm) : List Tm := if t ∈ L then L else L ++ [t]
theorem look_dk {L : List Tm} {t : Tm} : (lookD (dk L) t.d).isSome = decide (t ∈ L) := by
  unfold lookD dk
  rw [Option.isSome_map]
  rw [Bool.eq_iff_iff, decide_eq_true_iff, List.find?_isSome]
  constructor
  · rintro ⟨x, hx, e⟩
    obtain ⟨u, hu, rfl⟩ := List.mem_map.mp hx
    rw [Tm.eqd] at e
    rw [← of_decide_eq_true e]
    exact hu
  · intro h
    exact ⟨_, List.mem_map.mpr ⟨t, h, rfl⟩, by simp [Tm.eqd]⟩
theorem set_dk {L : List Tm} {t : Tm} : setD (dk L) t.d (.bl true) = dk (ins L t) := by
  unfold setD ins
  rw [look_dk]
  by_cases h : t ∈ L
  · rw [if_pos (decide_eq_true h), if_pos h]
    unfold dk
    rw [List.map_map]
    refine List.map_congr_left fun u hu => ?_
    simp
  · rw [if_neg (by simpa using h), if_neg h]
    simp [dk]
theorem len_dk {L : List Tm} : (dk L).length = L.length := by simp [dk]
theorem keys_dk {L : List Tm} : (dk L).map (·.1) = L.map Tm.d := by simp [dk]
theorem mem_ins {L : List Tm} {t u : Tm} : u ∈ ins L t ↔ u ∈ L ∨ u = t := by
  unfold ins
  by_cases h : t ∈ L
  · rw [if_pos h]
    exact ⟨.inl, fun z => z.elim id fun e => e ▸ h⟩
  · rw [if_neg h]
    simp
theorem nodup_ins {L : List Tm} {t : Tm} (h : L.Nodup) : (ins L t).Nodup := by
  unfold ins
  by_cases q : t ∈ L
  · rw [if_pos q]; exact h
  · rw [if_neg q]
    refine List.nodup_append.mpr ⟨h, by simp, fun a ha b hb e => ?_⟩
    have : b = t := by simpa using hb
    rw [e, this] at ha
    exact q ha
theorem pre_ins {L : List Tm} {t : Tm} : L <+: ins L t := by
  unfold ins
  by_cases q : t ∈ L
  · rw [if_pos q]; exact List.prefix_rfl
  · rw [if_neg q]; exact List.prefix_append ..
def addAll (L us : List Tm) : List Tm := us.foldl ins L
theorem mem_addAll {us L : List Tm} {u : Tm} : u ∈ addAll L us ↔ u ∈ L ∨ u ∈ us := by
  unfold addAll
  induction us generalizing L with
  | nil => simp
  | cons t r ih =>
    rw [List.foldl_cons, ih, mem_ins, List.mem_cons, or_assoc]
theorem nodup_addAll {us L : List Tm} (h : L.Nodup) : (addAll L us).Nodup := by
  unfold addAll
  induction us generalizing L with
  | nil => exact h
  | cons t r ih => exact ih (nodup_ins h)
theorem pre_addAll {us L : List Tm} : L <+: addAll L us := by
  unfold addAll
  induction us generalizing L with
  | nil => exact List.prefix_rfl
  | cons t r ih => exact pre_ins.trans ih
/-! ### what is built of a set of terms -/
def Bl (S : Tm → Prop) : Tm → Prop
  | .nm s => S (.nm s)
  | .pair a b => S (.pair a b) ∨ (Bl S a ∧ Bl S b)
  | .box a b => S (.box a b) ∨ (Bl S a ∧ Bl S b)
  | .half s => S (.half s) ∨ S (.nm s)
  | .shut s a => S (.shut s a) ∨ ((S (.half s) ∨ S (.nm s)) ∧ Bl S a)
  | .mark s a => S (.mark s a) ∨ (S (.nm s) ∧ Bl S a)
  | .mix a => S (.mix a) ∨ Bl S a
theorem Bl.mono {S T : Tm → Prop} (h : ∀ t, S t → T t) : ∀ t, Bl S t → Bl T t
  | .nm s, z => h _ z
  | .pair a b, z => z.elim (fun z => .inl (h _ z)) fun z => .inr ⟨Bl.mono h a z.1, Bl.mono h b z.2⟩
  | .box a b, z => z.elim (fun z => .inl (h _ z)) fun z => .inr ⟨Bl.mono h a z.1, Bl.mono h b z.2⟩
  | .half s, z => z.elim (fun z => .inl (h _ z)) fun z => .inr (h _ z)
  | .shut s a, z => z.elim (fun z => .inl (h _ z)) fun z => .inr ⟨z.1.elim (fun z => .inl (h _ z)) fun z => .inr (h _ z), Bl.mono h a z.2⟩
  | .mark s a, z => z.elim (fun z => .inl (h _ z)) fun z => .inr ⟨h _ z.1, Bl.mono h a z.2⟩
  | .mix a, z => z.elim (fun z => .inl (h _ z)) fun z => .inr (Bl.mono h a z)
theorem Bl.of {S : Tm → Prop} : ∀ {t : Tm}, S t → Bl S t
  | .nm s, z => z
  | .pair a b, z => .inl z
  | .box a b, z => .inl z
  | .half s, z => .inl z
  | .shut s a, z => .inl z
  | .mark s a, z => .inl z
  | .mix a, z => .inl z
def builtL (L : List Tm) : Tm → Bool
  | .nm s => decide (.nm s ∈ L)
  | .pair a b => decide (.pair a b ∈ L) || (builtL L a && builtL L b)
  | .box a b => decide (.box a b ∈ L) || (builtL L a && builtL L b)
  | .half s => decide (.half s ∈ L) || decide (.nm s ∈ L)
  | .shut s a => decide (.shut s a ∈ L) || ((decide (.half s ∈ L) || decide (.nm s ∈ L)) && builtL L a)
  | .mark s a => decide (.mark s a ∈ L) || (decide (.nm s ∈ L) && builtL L a)
  | .mix a => decide (.mix a ∈ L) || builtL L a
theorem built_iff {L : List Tm} : ∀ t, builtL L t = true ↔ Bl (· ∈ L) t
  | .nm s => by simp [builtL, Bl]
  | .pair a b => by simp [builtL, Bl, built_iff a, built_iff b]
  | .box a b => by simp [builtL, Bl, built_iff a, built_iff b]
  | .half s => by simp [builtL, Bl]
  | .shut s a => by simp [builtL, Bl, built_iff a]
  | .mark s a => by simp [builtL, Bl, built_iff a]
  | .mix a => by simp [builtL, Bl, built_iff a]
/-- what t opens to who has S -/
def Op (S : Tm → Prop) : Tm → Tm → Prop
  | .pair a b, u => u = a ∨ u = b
  | .mark _ a, u => u = a
  | .box k b, u => u = b ∧ Bl S k
  | .shut s a, u => u = a ∧ S (.nm s)
  | _, _ => False
theorem Op.mono {S T : Tm → Prop} (h : ∀ t, S t → T t) {t u : Tm} (z : Op S t u) : Op T t u := by
  cases t <;> simp only [Op] at z ⊢
  · exact z
  · exact ⟨z.1, Bl.mono h _ z.2⟩
  · exact ⟨z.1, h _ z.2⟩
  · exact z
def opensL (L : List Tm) : Tm → List Tm
  | .pair a b => [a, b]
  | .mark _ a => [a]
  | .box k b => if builtL L k = true then [b] else []
  | .shut s a => if decide (Tm.nm s ∈ L) = true then [a] else []
  | _ => []
theorem opens_iff {L : List Tm} {t u : Tm} : u ∈ opensL L t ↔ Op (· ∈ L) t u := by
  cases t <;> simp only [opensL, Op]
  · simp
  · simp
  · rw [← built_iff]
    split <;> simp_all
  · simp
  · split <;> simp_all
  · simp
  · simp
/-- closed -/
def Cl (S : Tm → Prop) : Prop := ∀ t u, S t → Op S t u → S u
/-- the least closed set over a hearing -/
def Lc (H : List Tm) (t : Tm) : Prop := ∀ S : Tm → Prop, (∀ h ∈ H, S h) → Cl S → S t
theorem Lc.heard {H : List Tm} {t : Tm} (h : t ∈ H) : Lc H t := fun S hH _ => hH t h
theorem Lc.cl (H : List Tm) : Cl (Lc H) := fun t u ht ho S hH hc => hc t u (ht S hH hc) (Op.mono (fun x hx => hx S hH hc) ho)
theorem Lc.sub {H : List Tm} {S : Tm → Prop} (hH : ∀ h ∈ H, S h) (hc : Cl S) : ∀ t, Bl (Lc H) t → Bl S t := Bl.mono fun t ht => ht S hH hc
/-! ### rounds -/
def step (L : List Tm) (t : Tm) : List Tm := addAll L (opensL L t)
def rnd (L ts : List Tm) : List Tm := ts.foldl step L
theorem pre_step {L : List Tm} {t : Tm} : L <+: step L t := pre_addAll
theorem pre_rnd {ts L : List Tm} : L <+: rnd L ts := by
  unfold rnd
  induction ts generalizing L with
  | nil => exact List.prefix_rfl
  | cons t r ih => exact pre_step.trans ih
theorem pre_eq {A B : List Tm} (h : A <+: B) (e : A.length = B.length) : A = B := h.eq_of_length e
theorem rnd_same {ts L : List Tm} (h : (rnd L ts).length = L.length) : ∀ t ∈ ts, step L t = L := by
  induction ts generalizing L with
  | nil => intro t ht; cases ht
  | cons t r ih =>
    have p1 := (pre_step (L := L) (t := t)).length_le
    have p2 := (pre_rnd (ts := r) (L := step L t)).length_le
    have e : rnd L (t :: r) = rnd (step L t) r := rfl
    rw [e] at h
    have s1 : L = step L t := pre_eq pre_step (by omega)
    intro u hu
    rcases List.mem_cons.mp hu with rfl | hu
    · exact s1.symm
    · refine ih ?_ u hu
      rw [s1, ← s1]
      rw [← s1] at h
      exact h
/-- what holds of the found terms all the while -/
structure Fnd (H U L : List Tm) : Prop where
  nd : L.Nodup
  hh : ∀ t ∈ H, t ∈ L
  lc : ∀ t ∈ L, Lc H t
  un : ∀ t ∈ L, t ∈ U
/-- U has what stands in its terms -/
def Parts (U : List Tm) : Prop := ∀ t ∈ U, ∀ u, Op (fun _ => True) t u → u ∈ U
theorem Fnd.step {H U L : List Tm} (h : Fnd H U L) (hu : Parts U) {t : Tm} (ht : t ∈ L) : Fnd H U (step L t) := by
  refine ⟨nodup_addAll h.nd, fun x hx => mem_addAll.mpr (.inl (h.hh x hx)), fun x hx => ?_, fun x hx => ?_⟩
  · rcases mem_addAll.mp hx with z | z
    · exact h.lc x z
    · exact Lc.cl H t x (h.lc t ht) (Op.mono h.lc (opens_iff.mp z))
  · rcases mem_addAll.mp hx with z | z
    · exact h.un x z
    · exact hu t (h.un t ht) x (Op.mono (fun _ _ => trivial) (opens_iff.mp z))
theorem Fnd.closed {H U L : List Tm} (h : Fnd H U L) (e : (rnd L L).length = L.length) : ∀ t, t ∈ L ↔ Lc H t := fun t => ⟨h.lc t, fun z => z (· ∈ L) h.hh fun a b ha ho => by
  have s := rnd_same e a ha
  rw [← s]
  exact mem_addAll.mpr (.inr (opens_iff.mpr ho))⟩
theorem Fnd.len {H U L : List Tm} (h : Fnd H U L) : L.length ≤ U.length := few _ _ h.nd h.un
end HD
namespace HD
open PySem PyProof.Rows
section
variable {Xd : Err → Prop} {Q : D → Prop}
end
end HD
namespace HD
open PySem PyProof.Rows
section
variable {Xd : Err → Prop} {Q : D → Prop}
end
end HD
namespace HD
open PySem PyProof.Rows
/-! ### what stands in a term -/
namespace Tm
def subs : Tm → List Tm
  | nm s => [nm s]
  | pair a b => pair a b :: (a.subs ++ b.subs)
  | box a b => box a b :: (a.subs ++ b.subs)
  | half s => [half s]
  | shut s a => shut s a :: a.subs
  | mark s a => mark s a :: a.subs
  | mix a => mix a :: a.subs
theorem subs_self (t : Tm) : t ∈ t.subs := by cases t <;> simp [subs]
theorem subs_ok : ∀ (t : Tm), t.ok → ∀ u ∈ t.subs, u.ok ∧ u.depth ≤ t.depth ∧ u.size ≤ t.size
  | nm s, h, u, hu => by
    simp [subs] at hu
    subst hu
    exact ⟨h, Int.le_refl _, Int.le_refl _⟩
  | pair a b, h, u, hu => by
    have sa := size_pos a
    have sb := size_pos b
    simp only [subs, List.mem_cons, List.mem_append] at hu
    rcases hu with rfl | hu | hu
    · exact ⟨h, Int.le_refl _, Int.le_refl _⟩
    · have z := subs_ok a h.1 u hu
      exact ⟨z.1, by simp only [depth]; omega, by simp only [size]; omega⟩
    · have z := subs_ok b h.2 u hu
      exact ⟨z.1, by simp only [depth]; omega, by simp only [size]; omega⟩
  | box a b, h, u, hu => by
    have sa := size_pos a
    have sb := size_pos b
    simp only [subs, List.mem_cons, List.mem_append] at hu
    rcases hu with rfl | hu | hu
    · exact ⟨h, Int.le_refl _, Int.le_refl _⟩
    · have z := subs_ok a h.1 u hu
      exact ⟨z.1, by simp only [depth]; omega, by simp only [size]; omega⟩
    · have z := subs_ok b h.2 u hu
      exact ⟨z.1, by simp only [depth]; omega, by simp only [size]; omega⟩
  | half s, h, u, hu => by
    simp [subs] at hu
    subst hu
    exact ⟨h, Int.le_refl _, Int.le_refl _⟩
  | shut s a, h, u, hu => by
    simp only [subs, List.mem_cons] at hu
    rcases hu with rfl | hu
    · exact ⟨h, Int.le_refl _, Int.le_refl _⟩
    · have z := subs_ok a h.2 u hu
      exact ⟨z.1, by simp only [depth]; omega, by simp only [size]; omega⟩
  | mark s a, h, u, hu => by
    simp only [subs, List.mem_cons] at hu
    rcases hu with rfl | hu
    · exact ⟨h, Int.le_refl _, Int.le_refl _⟩
    · have z := subs_ok a h.2 u hu
      exact ⟨z.1, by simp only [depth]; omega, by simp only [size]; omega⟩
  | mix a, h, u, hu => by
    simp only [subs, List.mem_cons] at hu
    rcases hu with rfl | hu
    · exact ⟨h, Int.le_refl _, Int.le_refl _⟩
    · have z := subs_ok a h u hu
      exact ⟨z.1, by simp only [depth]; omega, by simp only [size]; omega⟩
where size_pos : ∀ t : Tm, 1 ≤ t.size
  | nm _ => by simp [size]
  | pair a b => by simp only [size]; have := size_pos a; have := size_pos b; omega
  | box a b => by simp only [size]; have := size_pos a; have := size_pos b; omega
  | half _ => by simp [size]
  | shut _ a => by simp only [size]; have := size_pos a; omega
  | mark _ a => by simp only [size]; have := size_pos a; omega
  | mix a => by simp only [size]; exact size_pos a
theorem subs_len : ∀ (t : Tm) (n : Nat), t.depth ≤ n → t.subs.length + 1 ≤ 2 ^ n
  | t, 0, h => by
    have := dpos t
    omega
  | nm s, n + 1, h => by
    have := Nat.pow_pos (n := n) (show 0 < 2 by decide)
    simp only [subs, List.length_cons, List.length_nil, Nat.pow_succ]
    omega
  | pair a b, n + 1, h => by
    simp only [depth] at h
    have ha := subs_len a n (by omega)
    have hb := subs_len b n (by omega)
    simp only [subs, List.length_cons, List.length_append, Nat.pow_succ]
    omega
  | box a b, n + 1, h => by
    simp only [depth] at h
    have ha := subs_len a n (by omega)
    have hb := subs_len b n (by omega)
    simp only [subs, List.length_cons, List.length_append, Nat.pow_succ]
    omega
  | half s, n + 1, h => by
    have := Nat.pow_pos (n := n) (show 0 < 2 by decide)
    simp only [subs, List.length_cons, List.length_nil, Nat.pow_succ]
    omega
  | shut s a, n + 1, h => by
    simp only [depth] at h
    have ha := subs_len a n (by omega)
    simp only [subs, List.length_cons, Nat.pow_succ]
    omega
  | mark s a, n + 1, h => by
    simp only [depth] at h
    have ha := subs_len a n (by omega)
    simp only [subs, List.length_cons, Nat.pow_succ]
    omega
  | mix a, n + 1, h => by
    simp only [depth] at h
    have ha := subs_len a n (by omega)
    simp only [subs, List.length_cons, Nat.pow_succ]
    omega
theorem subs_op : ∀ (t x u : Tm), x ∈ t.subs → Op (fun _ => True) x u → u ∈ t.subs
  | nm s, x, u, hx, ho => by
    simp [subs] at hx
    subst hx
    simp [Op] at ho
  | pair a b, x, u, hx, ho => by
    simp only [subs, List.mem_cons, List.mem_append] at hx ⊢
    rcases hx with rfl | hx | hx
    · simp only [Op] at ho
      rcases ho with rfl | rfl
      · exact .inr (.inl (subs_self _))
      · exact .inr (.inr (subs_self _))
    · exact .inr (.inl (subs_op a x u hx ho))
    · exact .inr (.inr (subs_op b x u hx ho))
  | box a b, x, u, hx, ho => by
    simp only [subs, List.mem_cons, List.mem_append] at hx ⊢
    rcases hx with rfl | hx | hx
    · simp only [Op] at ho
      rw [ho.1]
      exact .inr (.inr (subs_self _))
    · exact .inr (.inl (subs_op a x u hx ho))
    · exact .inr (.inr (subs_op b x u hx ho))
  | half s, x, u, hx, ho => by
    simp [subs] at hx
    subst hx
    simp [Op] at ho
  | shut s a, x, u, hx, ho => by
    simp only [subs, List.mem_cons] at hx ⊢
    rcases hx with rfl | hx
    · simp only [Op] at ho
      rw [ho.1]
      exact .inr (subs_self _)
    · exact .inr (subs_op a x u hx ho)
  | mark s a, x, u, hx, ho => by
    simp only [subs, List.mem_cons] at hx ⊢
    rcases hx with rfl | hx
    · simp only [Op] at ho
      rw [ho]
      exact .inr (subs_self _)
    · exact .inr (subs_op a x u hx ho)
  | mix a, x, u, hx, ho => by
    simp only [subs, List.mem_cons] at hx ⊢
    rcases hx with rfl | hx
    · simp [Op] at ho
    · exact .inr (subs_op a x u hx ho)
end Tm
/-- what stands in a hearing -/
def unv (H : List Tm) : List Tm := H.flatMap Tm.subs
theorem unv_parts (H : List Tm) : Parts (unv H) := fun t ht u ho => by
  obtain ⟨x, hx, hs⟩ := List.mem_flatMap.mp ht
  exact List.mem_flatMap.mpr ⟨x, hx, Tm.subs_op x t u hs ho⟩
theorem unv_in {H : List Tm} : ∀ t ∈ H, t ∈ unv H := fun t ht => List.mem_flatMap.mpr ⟨t, ht, Tm.subs_self t⟩
theorem unv_len : ∀ {H : List Tm}, (∀ t ∈ H, t.depth ≤ 9) → (unv H).length ≤ H.length * 512
  | [], _ => by simp [unv]
  | t :: r, h => by
    have h1 := Tm.subs_len t 9 (h t (List.mem_cons_self ..))
    have h2 := unv_len (H := r) fun u hu => h u (List.mem_cons_of_mem _ hu)
    have e : unv (t :: r) = t.subs ++ unv r := by simp [unv]
    rw [e, List.length_append, List.length_cons]
    omega
/-- a term as these laws draw it -/
def Tm.fine (t : Tm) : Prop := t.ok ∧ t.depth ≤ 9 ∧ t.size ≤ 40
noncomputable def cm (H : List Tm) (t : Tm) : Bool := @decide (Bl (Lc H) t) (Classical.propDecidable _)
section
variable {Xd : Err → Prop} {Q : D → Prop}
end
end HD
namespace HD
open PySem PyProof.Rows
theorem lc_filtT {α : Type} {tg : DG} {u : DT} {a : DE} {ρ : Rho} {R : List D → Prop} (e f : α → D) (g : α → Bool) : ∀ (xs : List α) (acc : List D), (∀ x ∈ xs, ∀ (S : D → Prop) (N : Prop), (if g x = true then S (f x) else N) → tg (e x) ρ fun ρ1 => u ρ1 (fun _ => False) fun c => if c = true then a ρ1 (fun _ => False) S else N) →
    acc.length + xs.length ≤ sizeLine → R (acc ++ (xs.filter g).map f) → lcD tg u a (xs.map e) acc ρ R
  | [], acc, _, _, h => by simpa [lcD] using h
  | d :: r, acc, hf, hl, h => by
    refine hf d (List.mem_cons_self ..) (fun y => acc.length < sizeLine ∧ lcD tg u a (r.map e) (acc ++ [y]) ρ R) _ ?_
    cases z : g d with
    | true =>
      rw [if_pos rfl]
      rw [List.filter_cons_of_pos z] at h
      refine ⟨by simp at hl; omega, lc_filtT e f g r (acc ++ [f d]) (fun d' hd => hf d' (List.mem_cons_of_mem _ hd)) (by simp at hl ⊢; omega) (by simpa using h)⟩
    | false =>
      rw [if_neg (by simp)]
      rw [List.filter_cons_of_neg (by simp [z])] at h
      exact lc_filtT e f g r acc (fun d' hd => hf d' (List.mem_cons_of_mem _ hd)) (by simp at hl ⊢; omega) h
theorem Tm.dep : ∀ t : Tm, ((depD t.d : Nat) : Int) + 1 ≤ t.depth
  | nm s => by simp [depD, d, toP, PyData.depth, depth]
  | pair a b => by
    have ha := dep a
    have hb := dep b
    simp only [depD, d, toP, toPs, PyData.depth, PyData.depthAll, depth] at ha hb ⊢
    omega
  | box a b => by
    have ha := dep a
    have hb := dep b
    simp only [depD, d, toP, toPs, PyData.depth, PyData.depthAll, depth] at ha hb ⊢
    omega
  | half s => by simp [depD, d, toP, toPs, PyData.depth, PyData.depthAll, depth]
  | shut s a => by
    have ha := dep a
    simp only [depD, d, toP, toPs, PyData.depth, PyData.depthAll, depth] at ha ⊢
    omega
  | mark s a => by
    have ha := dep a
    simp only [depD, d, toP, toPs, PyData.depth, PyData.depthAll, depth] at ha ⊢
    omega
  | mix a => by
    have ha := dep a
    simp only [depD, d, toP, toPs, PyData.depth, PyData.depthAll, depth] at ha ⊢
    omega
theorem okDs_map : ∀ L : List Tm, okDs (L.map Tm.d) = true
  | [] => by simp [okDs]
  | t :: r => by simp [okDs, Tm.okd, okDs_map r]
theorem depAll : ∀ {L : List Tm} {k : Nat}, (∀ u ∈ L, u.depth ≤ (k : Int) + 1) → PyData.depthAll (toPs (L.map Tm.d)) ≤ k
  | [], k, _ => by simp [toPs, PyData.depthAll]
  | t :: r, k, h => by
    have h1 := Tm.dep t
    have h2 := h t (List.mem_cons_self ..)
    have h3 := depAll (L := r) (k := k) fun u hu => h u (List.mem_cons_of_mem _ hu)
    simp only [List.map_cons, toPs, PyData.depthAll]
    simp only [depD] at h1
    omega
theorem deep_in {t : Tm} {L : List Tm} (ht : t.depth ≤ 60) (hL : ∀ u ∈ L, u.depth ≤ 60) : deepIn t.d (L.map Tm.d) := by
  refine ⟨Tm.okd t, okDs_map L, ?_, ?_⟩
  · have := Tm.dep t
    omega
  · have := depAll (L := L) (k := 60) fun u hu => by have := hL u hu; omega
    simp only [depD, toP, PyData.depth]
    omega
theorem any_in {t : Tm} {L : List Tm} : (L.map Tm.d).any (fun z => eqD z t.d) = decide (t ∈ L) := by
  rw [Bool.eq_iff_iff, decide_eq_true_iff, List.any_eq_true]
  constructor
  · rintro ⟨x, hx, e⟩
    obtain ⟨u, hu, rfl⟩ := List.mem_map.mp hx
    rw [Tm.eqd] at e
    rw [← of_decide_eq_true e]
    exact hu
  · exact fun h => ⟨_, List.mem_map.mpr ⟨t, h, rfl⟩, by simp [Tm.eqd]⟩
/-! ### the parts of a term, as the laws list them -/
def addP (row ps : List Tm) : List Tm := row ++ ps.filter fun u => !decide (u ∈ row)
def Tm.partsL : Tm → List Tm
  | .nm s => [.nm s]
  | .pair a b => addP (addP [.pair a b] a.partsL) b.partsL
  | .box a b => addP (addP [.box a b] a.partsL) b.partsL
  | .half s => addP [.half s] [.nm s]
  | .shut s a => addP (addP [.shut s a] [.nm s]) a.partsL
  | .mark s a => addP (addP [.mark s a] [.nm s]) a.partsL
  | .mix a => addP [.mix a] a.partsL
theorem mem_addP {row ps : List Tm} {u : Tm} : u ∈ addP row ps ↔ u ∈ row ∨ u ∈ ps := by
  unfold addP
  rw [List.mem_append, List.mem_filter]
  constructor
  · rintro (h | h)
    · exact .inl h
    · exact .inr h.1
  · rintro (h | h)
    · exact .inl h
    · by_cases z : u ∈ row
      · exact .inl z
      · exact .inr ⟨h, by simp [z]⟩
theorem len_addP {row ps : List Tm} : (addP row ps).length ≤ row.length + ps.length := by
  unfold addP
  rw [List.length_append]
  have := List.length_filter_le (fun u => !decide (u ∈ row)) ps
  omega
theorem map_addP {row ps : List Tm} : row.map Tm.d ++ (ps.filter fun u => !decide (u ∈ row)).map Tm.d = (addP row ps).map Tm.d := by simp [addP]
theorem Tm.parts_all {P : Tm → Prop} (h1 : ∀ a b, P (.pair a b) → P a ∧ P b) (h2 : ∀ a b, P (.box a b) → P a ∧ P b) (h3 : ∀ s, P (.half s) → P (.nm s)) (h4 : ∀ s a, P (.shut s a) → P (.nm s) ∧ P a) (h5 : ∀ s a, P (.mark s a) → P (.nm s) ∧ P a) (h6 : ∀ a, P (.mix a) → P a) : ∀ t : Tm, P t → ∀ u ∈ t.partsL, P u
  | .nm s, h, u, hu => by
    simp [partsL] at hu
    rw [hu]; exact h
  | .pair a b, h, u, hu => by
    simp only [partsL, mem_addP, List.mem_singleton] at hu
    rcases hu with (rfl | hu) | hu
    · exact h
    · exact parts_all h1 h2 h3 h4 h5 h6 a (h1 a b h).1 u hu
    · exact parts_all h1 h2 h3 h4 h5 h6 b (h1 a b h).2 u hu
  | .box a b, h, u, hu => by
    simp only [partsL, mem_addP, List.mem_singleton] at hu
    rcases hu with (rfl | hu) | hu
    · exact h
    · exact parts_all h1 h2 h3 h4 h5 h6 a (h2 a b h).1 u hu
    · exact parts_all h1 h2 h3 h4 h5 h6 b (h2 a b h).2 u hu
  | .half s, h, u, hu => by
    simp only [partsL, mem_addP, List.mem_singleton] at hu
    rcases hu with rfl | rfl
    · exact h
    · exact h3 s h
  | .shut s a, h, u, hu => by
    simp only [partsL, mem_addP, List.mem_singleton] at hu
    rcases hu with (rfl | rfl) | hu
    · exact h
    · exact (h4 s a h).1
    · exact parts_all h1 h2 h3 h4 h5 h6 a (h4 s a h).2 u hu
  | .mark s a, h, u, hu => by
    simp only [partsL, mem_addP, List.mem_singleton] at hu
    rcases hu with (rfl | rfl) | hu
    · exact h
    · exact (h5 s a h).1
    · exact parts_all h1 h2 h3 h4 h5 h6 a (h5 s a h).2 u hu
  | .mix a, h, u, hu => by
    simp only [partsL, mem_addP, List.mem_singleton] at hu
    rcases hu with rfl | hu
    · exact h
    · exact parts_all h1 h2 h3 h4 h5 h6 a (h6 a h) u hu
theorem Tm.size_pos (t : Tm) : 1 ≤ t.size := Tm.subs_ok.size_pos t
theorem Tm.parts_small {n m : Int} : ∀ t : Tm, t.depth ≤ n ∧ t.size ≤ m → ∀ u ∈ t.partsL, u.depth ≤ n ∧ u.size ≤ m := by
  refine Tm.parts_all ?_ ?_ ?_ ?_ ?_ ?_
  · intro a b h
    have := a.size_pos; have := b.size_pos
    simp only [Tm.depth, Tm.size] at h
    exact ⟨⟨by omega, by omega⟩, by omega, by omega⟩
  · intro a b h
    have := a.size_pos; have := b.size_pos
    simp only [Tm.depth, Tm.size] at h
    exact ⟨⟨by omega, by omega⟩, by omega, by omega⟩
  · intro s h
    simp only [Tm.depth, Tm.size] at h ⊢
    exact ⟨by omega, by omega⟩
  · intro s a h
    have := a.size_pos
    simp only [Tm.depth, Tm.size] at h ⊢
    exact ⟨⟨by omega, by omega⟩, by omega, by omega⟩
  · intro s a h
    have := a.size_pos
    simp only [Tm.depth, Tm.size] at h ⊢
    exact ⟨⟨by omega, by omega⟩, by omega, by omega⟩
  · intro a h
    simp only [Tm.depth, Tm.size] at h
    exact ⟨by omega, by omega⟩
theorem Tm.parts_over {l : List (List Nat)} : ∀ t : Tm, t.over l → ∀ u ∈ t.partsL, u.over l :=
  Tm.parts_all (fun _ _ h => h) (fun _ _ h => h) (fun _ h => h) (fun _ _ h => h) (fun _ _ h => h) (fun _ h => h)
theorem Tm.parts_self (t : Tm) : t ∈ t.partsL := by
  cases t <;> simp [partsL, mem_addP]
theorem two_le {n : Nat} (h : 1 ≤ n) : 2 ≤ 2 ^ n := Nat.le_trans (show 2 ≤ 2 ^ 1 by decide) (Nat.pow_le_pow_right (by decide) h)
theorem Tm.parts_len : ∀ (t : Tm) (n : Nat), t.depth ≤ n → t.partsL.length + 2 ≤ 2 ^ (n + 1)
  | t, 0, h => by
    have := dpos t
    omega
  | .nm s, n + 1, h => by
    have := Nat.pow_pos (n := n) (show 0 < 2 by decide)
    simp only [partsL, List.length_cons, List.length_nil, Nat.pow_succ]
    omega
  | .pair a b, n + 1, h => by
    simp only [depth] at h
    have ha := parts_len a n (by omega)
    have hb := parts_len b n (by omega)
    have l1 := len_addP (row := addP [Tm.pair a b] a.partsL) (ps := b.partsL)
    have l2 := len_addP (row := [Tm.pair a b]) (ps := a.partsL)
    simp only [partsL, List.length_cons, List.length_nil, Nat.pow_succ] at *
    omega
  | .box a b, n + 1, h => by
    simp only [depth] at h
    have ha := parts_len a n (by omega)
    have hb := parts_len b n (by omega)
    have l1 := len_addP (row := addP [Tm.box a b] a.partsL) (ps := b.partsL)
    have l2 := len_addP (row := [Tm.box a b]) (ps := a.partsL)
    simp only [partsL, List.length_cons, List.length_nil, Nat.pow_succ] at *
    omega
  | .half s, n + 1, h => by
    simp only [depth] at h
    have : 2 ≤ 2 ^ n := two_le (by omega)
    have l2 := len_addP (row := [Tm.half s]) (ps := [Tm.nm s])
    simp only [partsL, List.length_cons, List.length_nil, Nat.pow_succ] at *
    omega
  | .shut s a, n + 1, h => by
    simp only [depth] at h
    have ha := parts_len a n (by omega)
    have l1 := len_addP (row := addP [Tm.shut s a] [.nm s]) (ps := a.partsL)
    have l2 := len_addP (row := [Tm.shut s a]) (ps := [.nm s])
    have : 2 ≤ 2 ^ n := two_le (by have := dpos a; omega)
    simp only [partsL, List.length_cons, List.length_nil, Nat.pow_succ] at *
    omega
  | .mark s a, n + 1, h => by
    simp only [depth] at h
    have ha := parts_len a n (by omega)
    have l1 := len_addP (row := addP [Tm.mark s a] [.nm s]) (ps := a.partsL)
    have l2 := len_addP (row := [Tm.mark s a]) (ps := [.nm s])
    have : 2 ≤ 2 ^ n := two_le (by have := dpos a; omega)
    simp only [partsL, List.length_cons, List.length_nil, Nat.pow_succ] at *
    omega
  | .mix a, n + 1, h => by
    simp only [depth] at h
    have ha := parts_len a n (by omega)
    have l2 := len_addP (row := [Tm.mix a]) (ps := a.partsL)
    have : 2 ≤ 2 ^ n := two_le (by have := dpos a; omega)
    simp only [partsL, List.length_cons, List.length_nil, Nat.pow_succ] at *
    omega
section
variable {Xd : Err → Prop} {Q : D → Prop}
def Drawn (l : List (List Nat)) (t : Tm) : Prop := t.over l ∧ t.depth ≤ 4 ∧ t.size ≤ 8
theorem Drawn.fine {l : List (List Nat)} {t : Tm} (hl : ∀ s ∈ l, isNm s) (h : Drawn l t) : t.fine := ⟨Tm.over_ok hl t h.1, by have := h.2.1; omega, by have := h.2.2; omega⟩
end
end HD
namespace HD
open PySem PyProof.Rows
section
variable {Xd : Err → Prop} {Q : D → Prop}
end
end HD
namespace HD
open PySem PyProof.Rows
/-! ### a wording has one reading -/
def letr (c : Nat) : Prop := 97 ≤ c ∧ c ≤ 122
/-- what may stand behind a term -/
def Rest : List Nat → Prop
  | [] => True
  | c :: r => c = 41 ∨ c = 93 ∨ c = 125 ∨ c = 33 ∨ c = 62 ∨ (c = 32 ∧ ∃ q, r = 38 :: q)
def noL : List Nat → Prop
  | [] => True
  | c :: _ => ¬ letr c
theorem Rest.noL {p : List Nat} (h : Rest p) : noL p := by
  cases p with
  | nil => trivial
  | cons c r =>
    intro z
    unfold letr at z
    rcases h with h | h | h | h | h | ⟨h, _⟩ <;> omega
theorem nm_split : ∀ {s t p q : List Nat}, (∀ c ∈ s, letr c) → (∀ c ∈ t, letr c) → noL p → noL q → s ++ p = t ++ q → s = t ∧ p = q
  | [], [], p, q, _, _, _, _, e => ⟨rfl, e⟩
  | [], c :: t, p, q, _, ht, hp, _, e => by
    simp at e
    rw [e] at hp
    exact absurd (ht c (by simp)) hp
  | c :: s, [], p, q, hs, _, _, hq, e => by
    simp at e
    rw [← e] at hq
    exact absurd (hs c (by simp)) hq
  | c :: s, d :: t, p, q, hs, ht, hp, hq, e => by
    simp only [List.cons_append, List.cons.injEq] at e
    obtain ⟨rfl, e⟩ := e
    have := nm_split (fun x hx => hs x (List.mem_cons_of_mem _ hx)) (fun x hx => ht x (List.mem_cons_of_mem _ hx)) hp hq e
    exact ⟨by rw [this.1], this.2⟩
theorem nm_head {s : List Nat} (h : isNm s) : ∃ c r, s = c :: r ∧ letr c := by
  cases s with
  | nil => have := h.1; simp at this
  | cons c r => exact ⟨c, r, rfl, h.2.2 c (by simp)⟩
theorem r41 {p : List Nat} : Rest (41 :: p) := .inl rfl
theorem r93 {p : List Nat} : Rest (93 :: p) := .inr (.inl rfl)
theorem r125 {p : List Nat} : Rest (125 :: p) := .inr (.inr (.inl rfl))
theorem r33 {p : List Nat} : Rest (33 :: p) := .inr (.inr (.inr (.inl rfl)))
theorem r62 {p : List Nat} : Rest (62 :: p) := .inr (.inr (.inr (.inr (.inl rfl))))
theorem rnd2 {p : List Nat} : Rest (32 :: 38 :: p) := .inr (.inr (.inr (.inr (.inr ⟨rfl, _, rfl⟩))))
namespace Tm
theorem nm_half {s t p q : List Nat} (hs : isNm s) (ht : isNm t) (hp : Rest p) (e : s ++ p = [104, 97, 108, 102, 32] ++ t ++ q) : False := by
  have e2 : s ++ p = [104, 97, 108, 102] ++ (32 :: (t ++ q)) := by simpa using e
  have := nm_split hs.2.2 (t := [104, 97, 108, 102]) (by simp [letr]) hp.noL (by simp [noL, letr]) e2
  obtain ⟨c, r, rfl, hc⟩ := nm_head ht
  rw [this.2] at hp
  rcases hp with h | h | h | h | h | ⟨_, q2, h⟩
  · omega
  · omega
  · omega
  · omega
  · omega
  · simp at h
    unfold letr at hc
    omega
theorem nm_mix {s p q : List Nat} (hs : isNm s) (hp : Rest p) (e : s ++ p = [109, 105, 120, 40] ++ q) : False := by
  have e2 : s ++ p = [109, 105, 120] ++ (40 :: q) := by simpa using e
  have := nm_split hs.2.2 (t := [109, 105, 120]) (by simp [letr]) hp.noL (by simp [noL, letr]) e2
  rw [this.2] at hp
  rcases hp with h | h | h | h | h | ⟨h, _⟩ <;> omega
theorem nm_not {s p q r : List Nat} {c : Nat} (hs : isNm s) (hc : ¬ letr c) (e : s ++ p = c :: r ++ q) : False := by
  obtain ⟨d, t, rfl, hd⟩ := nm_head hs
  simp at e
  rw [e.1] at hd
  exact hc hd
theorem key_of (a : Tm) : (∃ s, a = nm s ∧ key a.wd a = s) ∨ ((∀ s, a ≠ nm s) ∧ key a.wd a = [60] ++ a.wd ++ [62]) := by
  cases a with
  | nm s => exact .inl ⟨s, rfl, rfl⟩
  | _ => exact .inr ⟨fun s h => (by cases h), rfl⟩
theorem rd : ∀ (a b : Tm) (p q : List Nat), a.ok → b.ok → Rest p → Rest q → a.wd ++ p = b.wd ++ q → a = b ∧ p = q := by
  intro a
  induction a with
  | nm s =>
    intro b p q ha hb hp hq e
    cases b with
    | nm t =>
      have := nm_split ha.2.2 hb.2.2 hp.noL hq.noL e
      exact ⟨by rw [this.1], this.2⟩
    | half t => exact (nm_half ha hb hp (by simpa [wd] using e)).elim
    | mix x => exact (nm_mix ha hp (by simpa [wd] using e)).elim
    | pair x y => exact (nm_not (c := 40) ha (by unfold letr; omega) (by simpa [wd] using e)).elim
    | box x y => exact (nm_not (c := 91) ha (by unfold letr; omega) (by simpa [wd] using e)).elim
    | shut t x => exact (nm_not (c := 123) ha (by unfold letr; omega) (by simpa [wd] using e)).elim
    | mark t x => exact (nm_not (c := 40) ha (by unfold letr; omega) (by simpa [wd] using e)).elim
  | half s =>
    intro b p q ha hb hp hq e
    cases b with
    | nm t => exact (nm_half hb ha hq (by simpa [wd] using e.symm)).elim
    | half t =>
      have e2 : s ++ p = t ++ q := by simpa [wd] using e
      have := nm_split ha.2.2 hb.2.2 hp.noL hq.noL e2
      exact ⟨by rw [this.1], this.2⟩
    | _ => simp [wd] at e
  | mix x ih =>
    intro b p q ha hb hp hq e
    cases b with
    | nm t => exact (nm_mix hb hq (by simpa [wd] using e.symm)).elim
    | mix y =>
      have e2 : x.wd ++ (41 :: p) = y.wd ++ (41 :: q) := by simpa [wd] using e
      have := ih y _ _ ha hb r41 r41 e2
      exact ⟨by rw [this.1], by simpa using this.2⟩
    | _ => simp [wd] at e
  | pair x y ih1 ih2 =>
    intro b p q ha hb hp hq e
    cases b with
    | nm t => exact (nm_not (c := 40) hb (by unfold letr; omega) (by simpa [wd] using e.symm)).elim
    | pair u v =>
      have e2 : x.wd ++ (32 :: 38 :: 32 :: (y.wd ++ 41 :: p)) = u.wd ++ (32 :: 38 :: 32 :: (v.wd ++ 41 :: q)) := by simpa [wd] using e
      have h1 := ih1 u _ _ ha.1 hb.1 rnd2 rnd2 e2
      have e3 : y.wd ++ 41 :: p = v.wd ++ 41 :: q := by simpa using h1.2
      have h2 := ih2 v _ _ ha.2 hb.2 r41 r41 e3
      exact ⟨by rw [h1.1, h2.1], by simpa using h2.2⟩
    | mark t u =>
      have e2 : x.wd ++ (32 :: 38 :: 32 :: (y.wd ++ 41 :: p)) = u.wd ++ (33 :: (t ++ 41 :: q)) := by simpa [wd] using e
      have h1 := ih1 u _ _ ha.1 hb.2 rnd2 r33 e2
      simp at h1
    | _ => simp [wd] at e
  | box x y ih1 ih2 =>
    intro b p q ha hb hp hq e
    cases b with
    | nm t => exact (nm_not (c := 91) hb (by unfold letr; omega) (by simpa [wd] using e.symm)).elim
    | box u v =>
      have e2 : y.wd ++ (93 :: (key x.wd x ++ p)) = v.wd ++ (93 :: (key u.wd u ++ q)) := by simpa [wd] using e
      have h2 := ih2 v _ _ ha.2 hb.2 r93 r93 e2
      have e3 : key x.wd x ++ p = key u.wd u ++ q := by simpa using h2.2
      rcases key_of x with ⟨s, rfl, k1⟩ | ⟨n1, k1⟩
      · rcases key_of u with ⟨t, rfl, k2⟩ | ⟨n2, k2⟩
        · rw [k1, k2] at e3
          have := nm_split ha.1.2.2 hb.1.2.2 hp.noL hq.noL e3
          exact ⟨by rw [this.1, h2.1], this.2⟩
        · rw [k1, k2] at e3
          exact (nm_not (c := 60) ha.1 (by unfold letr; omega) (by simpa using e3)).elim
      · rcases key_of u with ⟨t, rfl, k2⟩ | ⟨n2, k2⟩
        · rw [k1, k2] at e3
          exact (nm_not (c := 60) hb.1 (by unfold letr; omega) (by simpa using e3.symm)).elim
        · rw [k1, k2] at e3
          have e4 : x.wd ++ 62 :: p = u.wd ++ 62 :: q := by simpa using e3
          have h1 := ih1 u _ _ ha.1 hb.1 r62 r62 e4
          exact ⟨by rw [h1.1, h2.1], by simpa using h1.2⟩
    | _ => simp [wd] at e
  | shut s x ih =>
    intro b p q ha hb hp hq e
    cases b with
    | nm t => exact (nm_not (c := 123) hb (by unfold letr; omega) (by simpa [wd] using e.symm)).elim
    | shut t u =>
      have e2 : x.wd ++ (125 :: (s ++ p)) = u.wd ++ (125 :: (t ++ q)) := by simpa [wd] using e
      have h1 := ih u _ _ ha.2 hb.2 r125 r125 e2
      have := nm_split ha.1.2.2 hb.1.2.2 hp.noL hq.noL (by simpa using h1.2)
      exact ⟨by rw [this.1, h1.1], this.2⟩
    | _ => simp [wd] at e
  | mark s x ih =>
    intro b p q ha hb hp hq e
    cases b with
    | nm t => exact (nm_not (c := 40) hb (by unfold letr; omega) (by simpa [wd] using e.symm)).elim
    | mark t u =>
      have e2 : x.wd ++ (33 :: (s ++ 41 :: p)) = u.wd ++ (33 :: (t ++ 41 :: q)) := by simpa [wd] using e
      have h1 := ih u _ _ ha.2 hb.2 r33 r33 e2
      have := nm_split ha.1.2.2 hb.1.2.2 (p := 41 :: p) (q := 41 :: q) (by simp [noL, letr]) (by simp [noL, letr]) (by simpa using h1.2)
      exact ⟨by rw [this.1, h1.1], by simpa using this.2⟩
    | pair u v =>
      have e2 : x.wd ++ (33 :: (s ++ 41 :: p)) = u.wd ++ (32 :: 38 :: 32 :: (v.wd ++ 41 :: q)) := by simpa [wd] using e
      have h1 := ih u _ _ ha.2 hb.1 r33 rnd2 e2
      simp at h1
    | _ => simp [wd] at e
theorem wd_inj {a b : Tm} (ha : a.ok) (hb : b.ok) (e : a.wd = b.wd) : a = b := (rd a b [] [] ha hb trivial trivial (by rw [e])).1
end Tm
end HD
namespace HD
open PySem PyProof.Rows
section
variable {Xd : Err → Prop} {Q : D → Prop}
theorem k_lp : Str.ofString "(" = St [40] := by kernel_rfl
theorem k_and : Str.ofString " & " = St [32, 38, 32] := by kernel_rfl
theorem k_rp : Str.ofString ")" = St [41] := by kernel_rfl
theorem k_lb : Str.ofString "[" = St [91] := by kernel_rfl
theorem k_rb : Str.ofString "]" = St [93] := by kernel_rfl
theorem k_lt : Str.ofString "<" = St [60] := by kernel_rfl
theorem k_gt : Str.ofString ">" = St [62] := by kernel_rfl
theorem k_rl : Str.ofString "]<" = St [93, 60] := by kernel_rfl
theorem k_lc : Str.ofString "{" = St [123] := by kernel_rfl
theorem k_rc : Str.ofString "}" = St [125] := by kernel_rfl
theorem k_ex : Str.ofString "!" = St [33] := by kernel_rfl
theorem k_half : Str.ofString "half " = St [104, 97, 108, 102, 32] := by kernel_rfl
theorem k_mix : Str.ofString "mix(" = St [109, 105, 120, 40] := by kernel_rfl
theorem shape (a : Tm) : (∃ s, a = .nm s) ∨ ∃ tag l, a.d = .tup (.str tag :: l) ∧ decide (tag = Str.ofString "var") = false ∧ Tm.key a.wd a = [60] ++ a.wd ++ [62] := by
  cases a with
  | nm s => exact .inl ⟨s, rfl⟩
  | pair a b => exact .inr ⟨_, _, rfl, t_pair_var, rfl⟩
  | box a b => exact .inr ⟨_, _, rfl, t_box_var, rfl⟩
  | half s => exact .inr ⟨_, _, rfl, t_half_var, rfl⟩
  | shut s a => exact .inr ⟨_, _, rfl, t_shut_var, rfl⟩
  | mark s a => exact .inr ⟨_, _, rfl, t_mark_var, rfl⟩
  | mix a => exact .inr ⟨_, _, rfl, t_mix_var, rfl⟩
theorem sp_m_spelled : ∀ (t : Tm) (n : Nat) (Xd : Err → Prop) (Q : D → Prop), t.ok → t.depth ≤ 12 → t.depth ≤ n → Q (.str (St t.wd)) → m_spelled n [t.d] Xd Q
  | t, 0, Xd, Q, h, hd, hn, q => by
    have := Tm.dpos t
    omega
  | .nm s, n + 1, Xd, Q, h, hd, hn, q => by
    simp_arith [m_spelled, Tm.d]
    exact q
  | .pair a b, n + 1, Xd, Q, h, hd, hn, q => by
    have w1 := Tm.okw h hd
    simp only [Tm.wd] at w1 q
    simp only [Tm.depth] at hd hn
    simp_arith [m_spelled, Tm.d]
    refine sp_m_spelled a n _ _ h.1 (by omega) (by omega) ?_
    refine sp_m_spelled b n _ _ h.2 (by omega) (by omega) ?_
    simp_arith [k_lp, k_and, k_rp]
    simp only [St_app]
    exact ⟨okS_pre (okS_pre (okS_pre w1)), okS_pre (okS_pre w1), okS_pre w1, w1, q⟩
  | .box a b, n + 1, Xd, Q, h, hd, hn, q => by
    have w1 := Tm.okw h hd
    simp only [Tm.wd] at w1 q
    simp only [Tm.depth] at hd hn
    simp_arith [m_spelled, Tm.d]
    refine sp_m_spelled a n _ _ h.1 (by omega) (by omega) ?_
    refine sp_m_spelled b n _ _ h.2 (by omega) (by omega) ?_
    rcases shape a with ⟨s, rfl⟩ | ⟨tag, l, e1, e2, e3⟩
    · simp_arith [k_lb, k_rb, Tm.d]
      simp only [St_app]
      exact ⟨okS_pre (okS_pre w1), okS_pre w1, w1, q⟩
    · rw [e3] at w1 q
      simp_arith [k_lb, k_rb, k_lt, k_gt, k_rl, e1, e2]
      simp only [St_app]
      exact ⟨okS_pre (okS_pre w1), okS_pre w1, okS_pre (okS_suf w1), okS_suf w1, w1, q⟩
  | .half s, n + 1, Xd, Q, h, hd, hn, q => by
    have w1 := Tm.okw h hd
    simp only [Tm.wd] at w1 q
    simp only [Tm.depth] at hd hn
    simp_arith [m_spelled, Tm.d]
    refine sp_m_spelled (.nm s) n _ _ h (by simp only [Tm.depth]; omega) (by simp only [Tm.depth]; omega) ?_
    simp_arith [k_half]
    simp only [St_app]
    exact ⟨w1, q⟩
  | .shut s a, n + 1, Xd, Q, h, hd, hn, q => by
    have w1 := Tm.okw h hd
    simp only [Tm.wd] at w1 q
    simp only [Tm.depth] at hd hn
    simp_arith [m_spelled, Tm.d]
    refine sp_m_spelled (.nm s) n _ _ h.1 (by simp only [Tm.depth]; omega) (by simp only [Tm.depth]; omega) ?_
    refine sp_m_spelled a n _ _ h.2 (by omega) (by omega) ?_
    simp_arith [k_lc, k_rc]
    simp only [St_app]
    exact ⟨okS_pre (okS_pre w1), okS_pre w1, w1, q⟩
  | .mark s a, n + 1, Xd, Q, h, hd, hn, q => by
    have w1 := Tm.okw h hd
    simp only [Tm.wd] at w1 q
    simp only [Tm.depth] at hd hn
    simp_arith [m_spelled, Tm.d]
    refine sp_m_spelled (.nm s) n _ _ h.1 (by simp only [Tm.depth]; omega) (by simp only [Tm.depth]; omega) ?_
    refine sp_m_spelled a n _ _ h.2 (by omega) (by omega) ?_
    simp_arith [k_lp, k_ex, k_rp]
    simp only [St_app]
    exact ⟨okS_pre (okS_pre (okS_pre w1)), okS_pre (okS_pre w1), okS_pre w1, w1, q⟩
  | .mix a, n + 1, Xd, Q, h, hd, hn, q => by
    have w1 := Tm.okw h hd
    simp only [Tm.wd] at w1 q
    simp only [Tm.depth] at hd hn
    simp_arith [m_spelled, Tm.d]
    refine sp_m_spelled a n _ _ h (by omega) (by omega) ?_
    simp_arith [k_mix, k_rp]
    simp only [St_app]
    exact ⟨okS_pre w1, w1, q⟩

/-! ### terms by their wordings -/
def leT (a b : Tm) : Bool := leS (St a.wd) (St b.wd)
def asc (L : List Tm) : List Tm := L.mergeSort leT
theorem asc_perm (L : List Tm) : (asc L).Perm L := List.mergeSort_perm L leT
theorem asc_mem {L : List Tm} {t : Tm} : t ∈ asc L ↔ t ∈ L := (asc_perm L).mem_iff
theorem asc_len {L : List Tm} : (asc L).length = L.length := (asc_perm L).length_eq
theorem asc_pw (L : List Tm) : (asc L).Pairwise fun a b => leT a b = true := List.pairwise_mergeSort (le := leT) (fun _ _ _ h1 h2 => leS_tr h1 h2) (fun a b => leS_tot _ _) L
/-- two lists of one set, both without repeats, are one in order -/
theorem asc_same {L M : List Tm} (hL : L.Nodup) (hM : M.Nodup) (ok : ∀ t ∈ L, t.ok) (h : ∀ t, t ∈ L ↔ t ∈ M) : asc L = asc M := by
  have p : L.Perm M := (List.perm_ext_iff_of_nodup hL hM).mpr h
  have pp : (asc L).Perm (asc M) := (asc_perm L).trans (p.trans (asc_perm M).symm)
  have key : ∀ {a b : List Tm}, a.Perm b → (∀ t ∈ a, t.ok) → a.Pairwise (fun a b => leT a b = true) → b.Pairwise (fun a b => leT a b = true) → a = b := by
    intro a b hp ho h1 h2
    have e1 : a.map (fun t => St t.wd) = b.map (fun t => St t.wd) := by
      rw [sortS_of (hp.map _) (List.pairwise_map.mpr h1)]
      exact (sortS_of (List.Perm.refl _) (List.pairwise_map.mpr h2)).symm
    have e2 : a.map Tm.wd = b.map Tm.wd := by
      have := congrArg (List.map fun s : Str => s.cps.toList) e1
      simpa [List.map_map, Function.comp_def, St_cps] using this
    have hb : ∀ t ∈ b, t.ok := fun t ht => ho t (hp.mem_iff.mpr ht)
    clear h1 h2 e1 hp
    induction a generalizing b with
    | nil => cases b with
      | nil => rfl
      | cons y r => simp at e2
    | cons x a ih => cases b with
      | nil => simp at e2
      | cons y r =>
        simp only [List.map_cons, List.cons.injEq] at e2
        rw [Tm.wd_inj (ho x (by simp)) (hb y (by simp)) e2.1, ih (fun t ht => ho t (List.mem_cons_of_mem _ ht)) e2.2 fun t ht => hb t (List.mem_cons_of_mem _ ht)]
  exact key pp (fun t ht => ok t (asc_mem.mp ht)) (asc_pw L) (asc_pw M)
def wdT (L : List Tm) : List (D × D) := L.map fun t => (.str (St t.wd), t.d)
theorem lc_len {H L : List Tm} (hf : ∀ t ∈ H, t.fine) (hl : H.length ≤ 40) (nd : L.Nodup) (h : ∀ t, t ∈ L ↔ Lc H t) : L.length ≤ 20480 := by
  have h1 := unv_len (H := H) fun t ht => (hf t ht).2.1
  have h2 : ∀ t ∈ L, t ∈ unv H := fun t ht => (h t).mp ht (· ∈ unv H) unv_in fun a b ha ho => unv_parts H a ha b (Op.mono (fun _ _ => trivial) ho)
  have := few L (unv H) nd h2
  omega
theorem lc_fine {H : List Tm} (hf : ∀ t ∈ H, t.fine) : ∀ t, Lc H t → t.fine := fun t ht => by
  have : t ∈ unv H := ht (· ∈ unv H) unv_in fun a b ha ho => unv_parts H a ha b (Op.mono (fun _ _ => trivial) ho)
  obtain ⟨x, hx, hs⟩ := List.mem_flatMap.mp this
  have z := Tm.subs_ok x (hf x hx).1 t hs
  exact ⟨z.1, Int.le_trans z.2.1 (hf x hx).2.1, Int.le_trans z.2.2 (hf x hx).2.2⟩
/-- the opened terms of a hearing, in their order -/
def IsOp (H O : List Tm) : Prop := ∃ L : List Tm, L.Nodup ∧ (∀ t, t ∈ L ↔ Lc H t) ∧ O = asc L
theorem IsOp.mem {H O : List Tm} (h : IsOp H O) (t : Tm) : t ∈ O ↔ Lc H t := by
  obtain ⟨L, _, h2, rfl⟩ := h
  rw [asc_mem, h2]
theorem IsOp.one {H O O' : List Tm} (hf : ∀ t ∈ H, t.fine) (h : IsOp H O) (h' : IsOp H O') : O = O' := by
  obtain ⟨L, n, h2, rfl⟩ := h
  obtain ⟨M, n', h2', rfl⟩ := h'
  exact asc_same n n' (fun t ht => (lc_fine hf t ((h2 t).mp ht)).1) fun t => (h2 t).trans (h2' t).symm
theorem IsOp.nd {H O : List Tm} (h : IsOp H O) : O.Nodup := by
  obtain ⟨L, n, _, rfl⟩ := h
  exact (asc_perm L).nodup_iff.mpr n
theorem IsOp.len {H O : List Tm} (hf : ∀ t ∈ H, t.fine) (hl : H.length ≤ 40) (h : IsOp H O) : O.length ≤ 20480 := by
  obtain ⟨L, n, h2, rfl⟩ := h
  rw [asc_len]
  exact lc_len hf hl n h2
end
end HD
namespace HD
open PySem PyProof.Rows
section
variable {Xd : Err → Prop} {Q : D → Prop}
/-- a closed paper, judged -/
noncomputable def pj (H : List Tm) (t : Tm) (T : List Tm) : Bool := @decide ((∀ h ∈ H, h ∈ T) ∧ ¬ Bl (· ∈ T) t ∧ Cl (· ∈ T)) (Classical.propDecidable _)
end
end HD
namespace HD
open PySem PyProof.Rows
section
variable {Xd : Err → Prop} {Q : D → Prop}
/-- what a term is built of -/
def pcs : Tm → List Tm
  | .nm _ => []
  | .pair a b => [a, b]
  | .box a b => [a, b]
  | .half s => [.nm s]
  | .shut s a => [.half s, a]
  | .mark s a => [.nm s, a]
  | .mix a => [a]
end
end HD
namespace HD
open PySem PyProof.Rows
/-- a for loop by what holds after each turn -/
theorem for_inv {tg : DG} {db : DS} {De : DEnds} (I : Nat → Rho → Prop) : ∀ (ds : List D) (k : Nat) (ρ : Rho), I k ρ →
    (∀ i d, ds[i]? = some d → ∀ ρ, I (k + i) ρ → ∀ N : Rho → Prop, (∀ ρ', I (k + i + 1) ρ' → N ρ') → tg d ρ fun ρ1 => db { De with nx := N, ct := N, bk := De.nx } ρ1) →
    (∀ ρ, I (k + ds.length) ρ → De.nx ρ) → forD tg db ds De ρ
  | [], k, ρ, h0, _, h => h ρ h0
  | d :: r, k, ρ, h0, hs, h => by
    refine hs 0 d rfl ρ h0 (forD tg db r De) fun ρ' h' => ?_
    refine for_inv I r (k + 1) ρ' h' (fun i x hx ρ2 h2 N hN => ?_) fun ρ2 h2 => h ρ2 (by simpa [Nat.add_comm, Nat.add_left_comm] using h2)
    refine hs (i + 1) x hx ρ2 (by simpa [Nat.add_comm, Nat.add_left_comm] using h2) N fun ρ3 h3 => hN ρ3 (by simpa [Nat.add_comm, Nat.add_left_comm] using h3)
/-- a comprehension of drawn terms -/
theorem lc_drawn {P : Tm → Prop} {tg : DG} {u : DT} {a : DE} {ρ : Rho} {R : List D → Prop} : ∀ (ds : List D) (A : List Tm), (∀ t ∈ A, P t) → (∀ d ∈ ds, ∀ (S : D → Prop) (N : Prop), (∀ t, P t → S t.d) → tg d ρ fun ρ1 => u ρ1 (fun _ => False) fun c => if c = true then a ρ1 (fun _ => False) S else N) →
    A.length + ds.length ≤ sizeLine → (∀ A' : List Tm, (∀ t ∈ A', P t) → A'.length = A.length + ds.length → R (A'.map Tm.d)) → lcD tg u a ds (A.map Tm.d) ρ R
  | [], A, hA, _, _, h => h A hA (by simp)
  | d :: r, A, hA, hs, hl, h => by
    refine hs d (List.mem_cons_self ..) (fun y => (A.map Tm.d).length < sizeLine ∧ lcD tg u a r (A.map Tm.d ++ [y]) ρ R) _ fun t ht => ⟨by simp at hl ⊢; omega, ?_⟩
    have e : A.map Tm.d ++ [t.d] = (A ++ [t]).map Tm.d := by simp
    rw [e]
    refine lc_drawn r (A ++ [t]) (fun x hx => ?_) (fun d' hd => hs d' (List.mem_cons_of_mem _ hd)) (by simp at hl ⊢; omega) fun A' h1 h2 => h A' h1 (by simp at h2 ⊢; omega)
    rcases List.mem_append.mp hx with z | z
    · exact hA x z
    · obtain rfl := List.mem_singleton.mp z
      exact ht
/-! ### what more is made -/
theorem Bl.idem {S : Tm → Prop} : ∀ t, Bl (Bl S) t → Bl S t
  | .nm s, h => h
  | .pair a b, h => h.elim id fun h => .inr ⟨Bl.idem a h.1, Bl.idem b h.2⟩
  | .box a b, h => h.elim id fun h => .inr ⟨Bl.idem a h.1, Bl.idem b h.2⟩
  | .half s, h => h.elim id fun h => .inr h
  | .shut s a, h => h.elim id fun h => .inr ⟨h.1.elim id fun h => .inr h, Bl.idem a h.2⟩
  | .mark s a, h => h.elim id fun h => .inr ⟨h.1, Bl.idem a h.2⟩
  | .mix a, h => h.elim id fun h => .inr (Bl.idem a h)
theorem Bl.cl {S : Tm → Prop} (hc : Cl S) : Cl (Bl S) := by
  intro t u ht ho
  cases t with
  | nm s => exact ho.elim
  | half s => exact ho.elim
  | mix a => exact ho.elim
  | pair a b =>
    rcases ht with ht | ht
    · exact Bl.of (hc _ u ht ho)
    · rcases ho with rfl | rfl
      · exact ht.1
      · exact ht.2
  | mark s a =>
    rcases ht with ht | ht
    · exact Bl.of (hc _ u ht ho)
    · have : u = a := ho
      rw [this]
      exact ht.2
  | box k b =>
    rcases ht with ht | ht
    · exact Bl.of (hc _ u ht ⟨ho.1, Bl.idem k ho.2⟩)
    · rw [ho.1]
      exact ht.2
  | shut s a =>
    rcases ht with ht | ht
    · exact Bl.of (hc _ u ht ⟨ho.1, ho.2⟩)
    · rw [ho.1]
      exact ht.2
theorem Lc.mono {R M : List Tm} (h : ∀ t ∈ R, t ∈ M) {t : Tm} (z : Lc R t) : Lc M t := z (Lc M) (fun x hx => Lc.heard (h x hx)) (Lc.cl M)
theorem Lc.made {R X : List Tm} (hX : ∀ x ∈ X, Bl (Lc R) x) {t : Tm} (z : Lc (R ++ X) t) : Bl (Lc R) t :=
  z (Bl (Lc R)) (fun x hx => (List.mem_append.mp hx).elim (fun q => Bl.of (Lc.heard q)) (hX x)) (Bl.cl (Lc.cl R))
end HD
namespace HD
open PySem PyProof.Rows
section
variable {Xd : Err → Prop} {Q : D → Prop}
end
end HD
namespace HD
open PySem PyProof.Rows
section
variable {Xd : Err → Prop} {Q : D → Prop}
theorem i_bool_B {x : Bool} : isiN "bool" (.bl x) = true := rfl
theorem e_plB {x : Bool} : isPl (.bl x) = true := rfl
theorem e_nnB {x : Bool} : isNoneD (.bl x) = false := rfl
end
end HD
namespace HD
open PySem PyProof.Rows
section
variable {Xd : Err → Prop} {Q : D → Prop}
def chL : List Nat := [97, 98, 99, 100, 101, 102, 103, 104, 105, 106, 107, 108, 109, 110, 111, 112, 113, 114, 115, 116, 117, 118, 119, 120, 121]
/-- a key of a chain -/
def CK (s : List Nat) : Prop := isNm s
/-- a term of a chain -/
def CT6 (t : Tm) : Prop := t.fine ∧ t.subs.length ≤ 8 ∧ t.depth ≤ 4
end
end HD
namespace HD
open PySem PyProof.Rows
section
variable {Xd : Err → Prop} {Q : D → Prop}
end
end HD
namespace HD
open PySem PyProof.Rows
section
variable {Xd : Err → Prop} {Q : D → Prop}
theorem i_str_B {x : Bool} : isiN "str" (.bl x) = false := rfl
theorem i_str_N  : isiN "str" .non = false := rfl
theorem i_int_B {x : Bool} : isiN "int" (.bl x) = true := rfl
theorem i_int_N  : isiN "int" .non = false := rfl
theorem i_bool_N  : isiN "bool" .non = false := rfl
theorem i_list_B {x : Bool} : isiN "list" (.bl x) = false := rfl
theorem i_list_N  : isiN "list" .non = false := rfl
theorem i_tuple_B {x : Bool} : isiN "tuple" (.bl x) = false := rfl
theorem i_tuple_N  : isiN "tuple" .non = false := rfl
theorem i_dict_B {x : Bool} : isiN "dict" (.bl x) = false := rfl
theorem i_dict_N  : isiN "dict" .non = false := rfl
theorem e_plN : isPl .non = true := rfl
theorem e_nnN : isNoneD .non = true := rfl
theorem e_nnI {x : Int} : isNoneD (.int x) = false := rfl
theorem e_nnL {x : List D} : isNoneD (.lst x) = false := rfl
theorem e_tf : decide (true = false) = false := rfl
/-- plain data of nesting below n -/
def PlN : Nat → D → Prop
  | 0, _ => False
  | _ + 1, .non => True
  | _ + 1, .bl _ => True
  | _ + 1, .int _ => True
  | _ + 1, .str _ => True
  | n + 1, .tup xs => xs.length ≤ 1000000 ∧ ∀ x ∈ xs, PlN n x
  | n + 1, .lst xs => xs.length ≤ 1000000 ∧ ∀ x ∈ xs, PlN n x
  | _ + 1, _ => False
theorem PlN.term : ∀ (t : Tm) (n : Nat), t.depth + 1 ≤ (n : Int) → PlN n t.d
  | t, 0, h => by
    have := Tm.dpos t
    omega
  | t, 1, h => by
    have := Tm.dpos t
    omega
  | .nm s, n + 2, h => trivial
  | .pair a b, n + 2, h => by
    simp only [Tm.depth] at h
    refine ⟨by simp, fun x hx => ?_⟩
    simp only [List.mem_cons, List.not_mem_nil, or_false] at hx
    rcases hx with rfl | rfl | rfl
    · trivial
    · exact PlN.term a _ (by omega)
    · exact PlN.term b _ (by omega)
  | .box a b, n + 2, h => by
    simp only [Tm.depth] at h
    refine ⟨by simp, fun x hx => ?_⟩
    simp only [List.mem_cons, List.not_mem_nil, or_false] at hx
    rcases hx with rfl | rfl | rfl
    · trivial
    · exact PlN.term a _ (by omega)
    · exact PlN.term b _ (by omega)
  | .half s, n + 2, h => by
    refine ⟨by simp, fun x hx => ?_⟩
    simp only [List.mem_cons, List.not_mem_nil, or_false] at hx
    rcases hx with rfl | rfl <;> trivial
  | .shut s a, n + 2, h => by
    simp only [Tm.depth] at h
    refine ⟨by simp, fun x hx => ?_⟩
    simp only [List.mem_cons, List.not_mem_nil, or_false] at hx
    rcases hx with rfl | rfl | rfl
    · trivial
    · trivial
    · exact PlN.term a _ (by omega)
  | .mark s a, n + 2, h => by
    simp only [Tm.depth] at h
    refine ⟨by simp, fun x hx => ?_⟩
    simp only [List.mem_cons, List.not_mem_nil, or_false] at hx
    rcases hx with rfl | rfl | rfl
    · trivial
    · trivial
    · exact PlN.term a _ (by omega)
  | .mix a, n + 2, h => by
    simp only [Tm.depth] at h
    refine ⟨by simp, fun x hx => ?_⟩
    simp only [List.mem_cons, List.not_mem_nil, or_false] at hx
    rcases hx with rfl | rfl
    · trivial
    · exact PlN.term a _ (by omega)
theorem PlN.terms {L : List Tm} {n : Nat} (h : ∀ t ∈ L, t.depth + 2 ≤ (n : Int)) (h1 : 1 ≤ n) (hl : L.length ≤ 1000000) : PlN n (.lst (L.map Tm.d)) := by
  obtain ⟨n, rfl⟩ : ∃ m, n = m + 1 := ⟨n - 1, by omega⟩
  refine ⟨by simpa using hl, fun x hx => ?_⟩
  obtain ⟨t, ht, rfl⟩ := List.mem_map.mp hx
  exact PlN.term t n (by have := h t ht; omega)
open Classical in
end
end HD
namespace KP
open PySem PyProof.Rows HD
/-! ### a wording of a pattern has one reading -/
namespace Pt
theorem lf_split {l m : Lf} {p q : List Nat} (hl : l.ok) (hm : m.ok) (hp : noL p) (hq : noL q) (e : l.wd ++ p = m.wd ++ q) : l = m ∧ p = q := by
  cases l with
  | nm s =>
    cases m with
    | nm t =>
      have := nm_split (show isNm s from hl).2.2 (show isNm t from hm).2.2 hp hq e
      exact ⟨by rw [this.1], this.2⟩
    | vr t => exact (Tm.nm_not (c := 63) (show isNm s from hl) (by unfold letr; omega) (by simpa [Lf.wd] using e)).elim
  | vr s =>
    cases m with
    | nm t => exact (Tm.nm_not (c := 63) (show isNm t from hm) (by unfold letr; omega) (by simpa [Lf.wd] using e.symm)).elim
    | vr t =>
      have := nm_split (show isNm s from hl).2.2 (show isNm t from hm).2.2 hp hq (by simpa [Lf.wd] using e)
      exact ⟨by rw [this.1], this.2⟩
theorem lf_head {l : Lf} (h : l.ok) : ∃ c r, l.wd = c :: r ∧ (letr c ∨ c = 63) := by
  cases l with
  | nm s =>
    obtain ⟨c, r, e, z⟩ := nm_head (show isNm s from h)
    exact ⟨c, r, e, .inl z⟩
  | vr s => exact ⟨63, s, rfl, .inr rfl⟩
theorem lf_not {l : Lf} {p q r : List Nat} {c : Nat} (h : l.ok) (hc : ¬ letr c) (h63 : c ≠ 63) (e : l.wd ++ p = c :: r ++ q) : False := by
  obtain ⟨d, t, e2, hd⟩ := lf_head h
  rw [e2] at e
  simp at e
  rcases hd with hd | hd
  · rw [e.1] at hd
    exact hc hd
  · omega
theorem lf_half {l m : Lf} {p q : List Nat} (hl : l.ok) (hm : m.ok) (hp : Rest p) (e : l.wd ++ p = [104, 97, 108, 102, 32] ++ m.wd ++ q) : False := by
  cases l with
  | vr s => simp [Lf.wd] at e
  | nm s =>
    have e2 : s ++ p = [104, 97, 108, 102] ++ (32 :: (m.wd ++ q)) := by simpa [Lf.wd] using e
    have := nm_split (show isNm s from hl).2.2 (t := [104, 97, 108, 102]) (by simp [letr]) hp.noL (by simp [noL, letr]) e2
    obtain ⟨c, r, e3, hc⟩ := lf_head hm
    rw [this.2, e3] at hp
    rcases hp with h | h | h | h | h | ⟨_, q2, h⟩
    · omega
    · omega
    · omega
    · omega
    · omega
    · simp at h
      unfold letr at hc
      omega
theorem lf_mix {l : Lf} {p q : List Nat} (hl : l.ok) (hp : Rest p) (e : l.wd ++ p = [109, 105, 120, 40] ++ q) : False := by
  cases l with
  | vr s => simp [Lf.wd] at e
  | nm s => exact Tm.nm_mix (show isNm s from hl) hp e
theorem key_of (a : Pt) : (∃ l, a = .lf l ∧ Pt.key a.wd a = l.wd) ∨ ((∀ l, a ≠ .lf l) ∧ Pt.key a.wd a = [60] ++ a.wd ++ [62]) := by
  cases a with
  | lf l => exact .inl ⟨l, rfl, rfl⟩
  | _ => exact .inr ⟨fun s h => (by cases h), rfl⟩
theorem rd : ∀ (a b : Pt) (p q : List Nat), a.ok → b.ok → Rest p → Rest q → a.wd ++ p = b.wd ++ q → a = b ∧ p = q := by
  intro a
  induction a with
  | lf s =>
    intro b p q ha hb hp hq e
    cases b with
    | lf t =>
      have := lf_split ha hb hp.noL hq.noL e
      exact ⟨by rw [this.1], this.2⟩
    | half t => exact (lf_half ha hb hp (by simpa [Pt.wd] using e)).elim
    | mix x => exact (lf_mix ha hp (by simpa [Pt.wd] using e)).elim
    | pair x y => exact (lf_not (c := 40) ha (by unfold letr; omega) (by decide) (by simpa [Pt.wd] using e)).elim
    | box x y => exact (lf_not (c := 91) ha (by unfold letr; omega) (by decide) (by simpa [Pt.wd] using e)).elim
    | shut t x => exact (lf_not (c := 123) ha (by unfold letr; omega) (by decide) (by simpa [Pt.wd] using e)).elim
    | mark t x => exact (lf_not (c := 40) ha (by unfold letr; omega) (by decide) (by simpa [Pt.wd] using e)).elim
  | half s =>
    intro b p q ha hb hp hq e
    cases b with
    | lf t => exact (lf_half hb ha hq (by simpa [Pt.wd] using e.symm)).elim
    | half t =>
      have e2 : s.wd ++ p = t.wd ++ q := by simpa [Pt.wd] using e
      have := lf_split ha hb hp.noL hq.noL e2
      exact ⟨by rw [this.1], this.2⟩
    | _ => simp [Pt.wd] at e
  | mix x ih =>
    intro b p q ha hb hp hq e
    cases b with
    | lf t => exact (lf_mix hb hq (by simpa [Pt.wd] using e.symm)).elim
    | mix y =>
      have e2 : x.wd ++ (41 :: p) = y.wd ++ (41 :: q) := by simpa [Pt.wd] using e
      have := ih y _ _ ha hb r41 r41 e2
      exact ⟨by rw [this.1], by simpa using this.2⟩
    | _ => simp [Pt.wd] at e
  | pair x y ih1 ih2 =>
    intro b p q ha hb hp hq e
    cases b with
    | lf t => exact (lf_not (c := 40) hb (by unfold letr; omega) (by decide) (by simpa [Pt.wd] using e.symm)).elim
    | pair u v =>
      have e2 : x.wd ++ (32 :: 38 :: 32 :: (y.wd ++ 41 :: p)) = u.wd ++ (32 :: 38 :: 32 :: (v.wd ++ 41 :: q)) := by simpa [Pt.wd] using e
      have h1 := ih1 u _ _ ha.1 hb.1 rnd2 rnd2 e2
      have e3 : y.wd ++ 41 :: p = v.wd ++ 41 :: q := by simpa using h1.2
      have h2 := ih2 v _ _ ha.2 hb.2 r41 r41 e3
      exact ⟨by rw [h1.1, h2.1], by simpa using h2.2⟩
    | mark t u =>
      have e2 : x.wd ++ (32 :: 38 :: 32 :: (y.wd ++ 41 :: p)) = u.wd ++ (33 :: (t.wd ++ 41 :: q)) := by simpa [Pt.wd] using e
      have h1 := ih1 u _ _ ha.1 hb.2 rnd2 r33 e2
      simp at h1
    | _ => simp [Pt.wd] at e
  | box x y ih1 ih2 =>
    intro b p q ha hb hp hq e
    cases b with
    | lf t => exact (lf_not (c := 91) hb (by unfold letr; omega) (by decide) (by simpa [Pt.wd] using e.symm)).elim
    | box u v =>
      have e2 : y.wd ++ (93 :: (Pt.key x.wd x ++ p)) = v.wd ++ (93 :: (Pt.key u.wd u ++ q)) := by simpa [Pt.wd] using e
      have h2 := ih2 v _ _ ha.2 hb.2 r93 r93 e2
      have e3 : Pt.key x.wd x ++ p = Pt.key u.wd u ++ q := by simpa using h2.2
      rcases key_of x with ⟨s, rfl, k1⟩ | ⟨n1, k1⟩
      · rcases key_of u with ⟨t, rfl, k2⟩ | ⟨n2, k2⟩
        · rw [k1, k2] at e3
          have := lf_split ha.1 hb.1 hp.noL hq.noL e3
          exact ⟨by rw [this.1, h2.1], this.2⟩
        · rw [k1, k2] at e3
          exact (lf_not (c := 60) ha.1 (by unfold letr; omega) (by decide) (by simpa using e3)).elim
      · rcases key_of u with ⟨t, rfl, k2⟩ | ⟨n2, k2⟩
        · rw [k1, k2] at e3
          exact (lf_not (c := 60) hb.1 (by unfold letr; omega) (by decide) (by simpa using e3.symm)).elim
        · rw [k1, k2] at e3
          have e4 : x.wd ++ 62 :: p = u.wd ++ 62 :: q := by simpa using e3
          have h1 := ih1 u _ _ ha.1 hb.1 r62 r62 e4
          exact ⟨by rw [h1.1, h2.1], by simpa using h1.2⟩
    | _ => simp [Pt.wd] at e
  | shut s x ih =>
    intro b p q ha hb hp hq e
    cases b with
    | lf t => exact (lf_not (c := 123) hb (by unfold letr; omega) (by decide) (by simpa [Pt.wd] using e.symm)).elim
    | shut t u =>
      have e2 : x.wd ++ (125 :: (s.wd ++ p)) = u.wd ++ (125 :: (t.wd ++ q)) := by simpa [Pt.wd] using e
      have h1 := ih u _ _ ha.2 hb.2 r125 r125 e2
      have := lf_split ha.1 hb.1 hp.noL hq.noL (by simpa using h1.2)
      exact ⟨by rw [this.1, h1.1], this.2⟩
    | _ => simp [Pt.wd] at e
  | mark s x ih =>
    intro b p q ha hb hp hq e
    cases b with
    | lf t => exact (lf_not (c := 40) hb (by unfold letr; omega) (by decide) (by simpa [Pt.wd] using e.symm)).elim
    | mark t u =>
      have e2 : x.wd ++ (33 :: (s.wd ++ 41 :: p)) = u.wd ++ (33 :: (t.wd ++ 41 :: q)) := by simpa [Pt.wd] using e
      have h1 := ih u _ _ ha.2 hb.2 r33 r33 e2
      have := lf_split ha.1 hb.1 (p := 41 :: p) (q := 41 :: q) (by simp [noL, letr]) (by simp [noL, letr]) (by simpa using h1.2)
      exact ⟨by rw [this.1, h1.1], by simpa using this.2⟩
    | pair u v =>
      have e2 : x.wd ++ (33 :: (s.wd ++ 41 :: p)) = u.wd ++ (32 :: 38 :: 32 :: (v.wd ++ 41 :: q)) := by simpa [Pt.wd] using e
      have h1 := ih u _ _ ha.2 hb.1 r33 rnd2 e2
      simp at h1
    | _ => simp [Pt.wd] at e
theorem wd_inj {a b : Pt} (ha : a.ok) (hb : b.ok) (e : a.wd = b.wd) : a = b := (rd a b [] [] ha hb trivial trivial (by rw [e])).1
end Pt
section
variable {Xd : Err → Prop} {Q : D → Prop}
/-! ### patterns drawn -/
def varsD : List D := [.str (Str.ofString "x"), .str (Str.ofString "half"), .str (Str.ofString "mix")]
end
end KP
namespace HD
open PySem PyProof.Rows
section
variable {Xd : Err → Prop} {Q : D → Prop}
theorem Tm.subs_parts : ∀ (t u : Tm), u ∈ t.subs → u ∈ t.partsL
  | .nm s, u, h => by simpa [Tm.subs, Tm.partsL] using h
  | .pair a b, u, h => by
    simp only [Tm.subs, List.mem_cons, List.mem_append] at h
    simp only [Tm.partsL, mem_addP, List.mem_singleton]
    rcases h with h | h | h
    · exact .inl (.inl h)
    · exact .inl (.inr (Tm.subs_parts a u h))
    · exact .inr (Tm.subs_parts b u h)
  | .box a b, u, h => by
    simp only [Tm.subs, List.mem_cons, List.mem_append] at h
    simp only [Tm.partsL, mem_addP, List.mem_singleton]
    rcases h with h | h | h
    · exact .inl (.inl h)
    · exact .inl (.inr (Tm.subs_parts a u h))
    · exact .inr (Tm.subs_parts b u h)
  | .half s, u, h => by
    simp only [Tm.subs, List.mem_cons, List.not_mem_nil, or_false] at h
    rw [h]
    exact Tm.parts_self _
  | .shut s a, u, h => by
    simp only [Tm.subs, List.mem_cons] at h
    simp only [Tm.partsL, mem_addP, List.mem_singleton]
    rcases h with h | h
    · exact .inl (.inl h)
    · exact .inr (Tm.subs_parts a u h)
  | .mark s a, u, h => by
    simp only [Tm.subs, List.mem_cons] at h
    simp only [Tm.partsL, mem_addP, List.mem_singleton]
    rcases h with h | h
    · exact .inl (.inl h)
    · exact .inr (Tm.subs_parts a u h)
  | .mix a, u, h => by
    simp only [Tm.subs, List.mem_cons] at h
    simp only [Tm.partsL, mem_addP, List.mem_singleton]
    rcases h with h | h
    · exact .inl h
    · exact .inr (Tm.subs_parts a u h)
theorem IsOp.fine {H O : List Tm} (hf : ∀ t ∈ H, t.fine) (h : IsOp H O) : ∀ t ∈ O, t.fine := fun t ht => lc_fine hf t ((h.mem t).mp ht)
end
end HD
namespace HD
open PySem PyProof.Rows
section
variable {Xd : Err → Prop} {Q : D → Prop}
/-- opened by single steps -/
def opM (M : List Tm) : Tm → List Tm
  | .pair a b => [a, b]
  | .mark _ a => [a]
  | .box k b => if decide (k ∈ M) = true then [b] else []
  | .shut s a => if decide (Tm.nm s ∈ M) = true then [a] else []
  | _ => []
def isNmT : Tm → Bool
  | .nm _ => true
  | _ => false
def bldM (M : List Tm) (t : Tm) : Bool := !decide (t ∈ M) && !isNmT t && (pcs t).all fun p => decide (p ∈ M)
def st1 (M : List Tm) (t : Tm) : List Tm := if bldM M t = true then ins M t else M
def st2 (M : List Tm) (t : Tm) : List Tm := if decide (t ∈ M) = true then addAll M (opM M t) else M
def stM (M : List Tm) (t : Tm) : List Tm := st2 (st1 M t) t
def rdM (M ts : List Tm) : List Tm := ts.foldl stM M
/-- the terms among which things are made -/
structure Ev (R E : List Tm) : Prop where
  row : ∀ t ∈ R, t ∈ E
  parts : ∀ t ∈ E, ∀ u ∈ t.partsL, u ∈ E
  half : ∀ s, Tm.nm s ∈ E → Tm.half s ∈ E
  ok : ∀ t ∈ E, t.ok ∧ t.depth ≤ 9
structure FndM (R E M : List Tm) : Prop where
  nd : M.Nodup
  row : ∀ t ∈ R, t ∈ M
  bl : ∀ t ∈ M, Bl (Lc R) t
  un : ∀ t ∈ M, t ∈ E
theorem pcs_bl {S : Tm → Prop} {t : Tm} (hn : isNmT t = false) (h : ∀ p ∈ pcs t, Bl S p) : Bl S t := by
  cases t with
  | nm s => cases hn
  | pair a b => exact .inr ⟨h a (by simp [pcs]), h b (by simp [pcs])⟩
  | box a b => exact .inr ⟨h a (by simp [pcs]), h b (by simp [pcs])⟩
  | half s => exact .inr (h (.nm s) (by simp [pcs]))
  | shut s a => exact .inr ⟨h (.half s) (by simp [pcs]), h a (by simp [pcs])⟩
  | mark s a => exact .inr ⟨h (.nm s) (by simp [pcs]), h a (by simp [pcs])⟩
  | mix a => exact .inr (h a (by simp [pcs]))
theorem opM_op {M : List Tm} {S : Tm → Prop} (hS : ∀ t ∈ M, S t) {t u : Tm} (h : u ∈ opM M t) : Op S t u := by
  cases t <;> simp only [opM] at h
  · cases h
  · simpa [Op] using h
  · rename_i k b
    by_cases z : k ∈ M
    · rw [if_pos (decide_eq_true z)] at h
      exact ⟨by simpa using h, Bl.of (hS k z)⟩
    · rw [if_neg (by simpa using z)] at h
      cases h
  · cases h
  · rename_i s a
    by_cases z : Tm.nm s ∈ M
    · rw [if_pos (decide_eq_true z)] at h
      exact ⟨by simpa using h, hS _ z⟩
    · rw [if_neg (by simpa using z)] at h
      cases h
  · simpa [Op] using h
  · cases h
theorem op_part {S : Tm → Prop} {t u : Tm} (h : Op S t u) : u ∈ t.partsL := Tm.subs_parts t u (Tm.subs_op t t u (Tm.subs_self t) (Op.mono (fun _ _ => trivial) h))
theorem FndM.st1 {R E M : List Tm} (h : FndM R E M) {t : Tm} (ht : t ∈ E) : FndM R E (st1 M t) := by
  unfold HD.st1
  split
  · rename_i z
    unfold bldM at z
    simp only [Bool.and_eq_true, Bool.not_eq_true', List.all_eq_true, decide_eq_true_iff] at z
    refine ⟨nodup_ins h.nd, fun x hx => mem_ins.mpr (.inl (h.row x hx)), fun x hx => ?_, fun x hx => ?_⟩
    · rcases mem_ins.mp hx with q | rfl
      · exact h.bl x q
      · exact pcs_bl z.1.2 fun p hp => h.bl p (z.2 p hp)
    · rcases mem_ins.mp hx with q | rfl
      · exact h.un x q
      · exact ht
  · exact h
theorem FndM.st2 {R E M : List Tm} (he : Ev R E) (h : FndM R E M) {t : Tm} (ht : t ∈ E) : FndM R E (st2 M t) := by
  unfold HD.st2
  split
  · rename_i z
    have z : t ∈ M := by simpa using z
    refine ⟨nodup_addAll h.nd, fun x hx => mem_addAll.mpr (.inl (h.row x hx)), fun x hx => ?_, fun x hx => ?_⟩
    · rcases mem_addAll.mp hx with q | q
      · exact h.bl x q
      · exact Bl.cl (Lc.cl R) t x (h.bl t z) (opM_op h.bl q)
    · rcases mem_addAll.mp hx with q | q
      · exact h.un x q
      · exact he.parts t ht x (op_part (opM_op h.bl q))
  · exact h
theorem FndM.stM {R E M : List Tm} (he : Ev R E) (h : FndM R E M) {t : Tm} (ht : t ∈ E) : FndM R E (stM M t) := (h.st1 ht).st2 he ht
theorem FndM.len {R E M : List Tm} (h : FndM R E M) : M.length ≤ E.length := few _ _ h.nd h.un
theorem self_pcs {t p : Tm} (hp : p ∈ pcs t) : p ∈ t.partsL ∨ ∃ s, p = .half s ∧ Tm.nm s ∈ t.partsL := by
  cases t with
  | nm s => cases hp
  | shut s a =>
    simp only [pcs, List.mem_cons, List.not_mem_nil, or_false] at hp
    rcases hp with rfl | rfl
    · exact .inr ⟨s, rfl, by simp [Tm.partsL, mem_addP]⟩
    · exact .inl (by simp only [Tm.partsL, mem_addP]; exact .inr (Tm.parts_self _))
  | half s =>
    simp only [pcs, List.mem_cons, List.not_mem_nil, or_false] at hp
    subst hp
    exact .inl (by simp [Tm.partsL, mem_addP])
  | mark s a =>
    simp only [pcs, List.mem_cons, List.not_mem_nil, or_false] at hp
    rcases hp with rfl | rfl
    · exact .inl (by simp [Tm.partsL, mem_addP])
    · exact .inl (by simp only [Tm.partsL, mem_addP]; exact .inr (Tm.parts_self _))
  | pair a b =>
    simp only [pcs, List.mem_cons, List.not_mem_nil, or_false] at hp
    rcases hp with rfl | rfl
    · exact .inl (by simp only [Tm.partsL, mem_addP]; exact .inl (.inr (Tm.parts_self _)))
    · exact .inl (by simp only [Tm.partsL, mem_addP]; exact .inr (Tm.parts_self _))
  | box a b =>
    simp only [pcs, List.mem_cons, List.not_mem_nil, or_false] at hp
    rcases hp with rfl | rfl
    · exact .inl (by simp only [Tm.partsL, mem_addP]; exact .inl (.inr (Tm.parts_self _)))
    · exact .inl (by simp only [Tm.partsL, mem_addP]; exact .inr (Tm.parts_self _))
  | mix a =>
    simp only [pcs, List.mem_cons, List.not_mem_nil, or_false] at hp
    subst hp
    exact .inl (by simp only [Tm.partsL, mem_addP]; exact .inr (Tm.parts_self _))
theorem Ev.pcs {R E : List Tm} (he : Ev R E) {t p : Tm} (ht : t ∈ E) (hp : p ∈ pcs t) : p ∈ E := by
  rcases self_pcs hp with z | ⟨s, rfl, z⟩
  · exact he.parts t ht p z
  · exact he.half s (he.parts t ht _ z)
section
variable {R E M : List Tm} (he : Ev R E) (h : FndM R E M) (e : (rdM M E).length = M.length)
include he h e
end
end
end HD
namespace HD
open PySem PyProof.Rows
section
variable {Xd : Err → Prop} {Q : D → Prop}
def mdBody : DS := (dSeq (dIfS (dAnd (dTest (dOpOwn (rIn true) (dVar 3) 2)) (dNot (dTest (dCB rIsi (dCons (dVar 3) (dCons (dC (.ty "str")) dNil)))))) (dIfS (dTest (dOp rEq (dCB rLen (dCons (dLc (dItems (dCall m_law_pieces (dCons (dVar 3) dNil))) (tName 7) (dNot (dTest (dGetO 2 (dVar 7) (dC (.bl false))))) (dVar 7) [7]) dNil)) (dC (.int 0)))) (dPut 2 (dVar 3) (dC (.bl true))) dNext) dNext)
    (dIfS (dTest (dGetO 2 (dVar 3) (dC (.bl false)))) (dFor (dItems (dCallD [2] m_law_opens (dCons (dLendD 2) (dCons (dVar 3) dNil)))) (tName 6) (dPut 2 (dVar 6) (dC (.bl true)))) dNext))
end
end HD
namespace HD
open PySem PyProof.Rows
section
variable {Xd : Err → Prop} {Q : D → Prop}
theorem St_eta (x : Str) : x = St x.cps.toList := by
  cases x
  rfl
def nmB (l : List Nat) : Bool := decide (1 ≤ l.length) && decide (l.length ≤ 8) && l.all fun c => decide (97 ≤ c ∧ c ≤ 122)
theorem nmB_iff {l : List Nat} : nmB l = true ↔ isNm l := by
  unfold nmB isNm
  simp only [Bool.and_eq_true, decide_eq_true_iff, List.all_eq_true]
  exact and_assoc
def nmD1 : D → Bool
  | .str x => nmB x.cps.toList
  | _ => false
theorem sp_is_nameT {l : List Nat} (q : Q (.bl (nmB l))) : m_is_name [.str (St l)] Xd Q := by
  simp_arith [m_is_name, St_len, St_cps]
  by_cases h1 : (1 : Int) ≤ l.length
  · by_cases h2 : (l.length : Int) ≤ 8
    · simp_arith [h1, h2]
      refine lc_filtT (fun c : Nat => D.str ⟨#[c]⟩) (fun c => .bl (decide (97 ≤ c ∧ c ≤ 122))) (fun _ => true) l [] (fun c hc S N hS => ?_) (by simp only [List.length_nil]; exact Nat.le_trans (show _ ≤ 8 by omega) (by decide)) ?_
      · have e : decide (c ∈ ("abcdefghijklmnopqrstuvwxyz" : Str).cps.toList) = decide (97 ≤ c ∧ c ≤ 122) := by
          rw [Bool.eq_iff_iff, decide_eq_true_iff, decide_eq_true_iff]
          exact small_mem
        simp_arith [e]
        simpa using hS
      · rw [List.nil_append, List.filter_eq_self.mpr (by simp)]
        refine ⟨l.map fun c => decide (97 ≤ c ∧ c ≤ 122), by simp [Function.comp_def], ?_⟩
        have e : (l.map fun c => decide (97 ≤ c ∧ c ≤ 122)).all id = nmB l := by
          unfold nmB
          rw [decide_eq_true (show 1 ≤ l.length by omega), decide_eq_true (show l.length ≤ 8 by omega)]
          simp [List.all_map, Function.comp_def]
        rw [e]
        exact q
    · have e : nmB l = false := by
        unfold nmB
        rw [decide_eq_false (show ¬ l.length ≤ 8 by omega)]
        simp
      rw [e] at q
      simp_arith [h1, h2]
      exact q
  · have e : nmB l = false := by
      unfold nmB
      rw [decide_eq_false (show ¬ 1 ≤ l.length by omega)]
      simp
    rw [e] at q
    simp_arith [h1]
    exact q
theorem sp_is_nameD {d : D} (h : isPl d = true) (q : Q (.bl (nmD1 d))) : m_is_name [d] Xd Q := by
  cases d with
  | str x =>
    rw [St_eta x]
    exact sp_is_nameT q
  | non => simp_arith [m_is_name, i_str_N, e_plN]; exact q
  | bl b => simp_arith [m_is_name, i_str_B, e_plB]; exact q
  | int i => simp_arith [m_is_name]; exact q
  | tup xs => simp_arith [m_is_name]; exact q
  | lst xs => simp_arith [m_is_name]; exact q
  | dct xs => simp_arith [m_is_name]; exact q
  | _ => cases h
/-- the words of the forms: how many parts, and whether the first is a name -/
def kindOf (w : Str) : Option (Nat × Bool) := if w = "pair" then some (2, false) else if w = "box" then some (2, false) else if w = "half" then some (1, true) else if w = "shut" then some (2, true) else if w = "mark" then some (2, true) else if w = "mix" then some (1, false) else none
def msP (f : D → Option (Int × Int)) : Option (Nat × Bool) → List D → Option (Int × Int)
  | some (1, nb), [a] => if (nb && !nmD1 a) = true then none else (f a).map fun p => (p.1, 1 + p.2)
  | some (2, nb), [a, c] => if (nb && !nmD1 a) = true then none else match f a, f c with
    | some p, some q => some (p.1 + q.1, 1 + max p.2 q.2)
    | _, _ => none
  | _, _ => none
def msB (f : D → Option (Int × Int)) : D → Option (Int × Int)
  | .tup (.str w :: ps) => msP f (kindOf w) ps
  | _ => none
def msD : Nat → D → Option (Int × Int)
  | 0, _ => none
  | r + 1, d => if nmD1 d = true then some (1, 1) else if r = 0 then none else msB (msD r) d
def msV : Option (Int × Int) → D
  | none => .non
  | some p => .tup [.int p.1, .int p.2]
/-- plain as deep as is looked -/
def PlR : Nat → D → Prop
  | 0, d => isPl d = true
  | r + 1, d => isPl d = true ∧ ∀ xs, d = .tup xs → ∀ x ∈ xs, PlR r x
theorem PlR.pl {r : Nat} {d : D} (h : PlR r d) : isPl d = true := by
  cases r with
  | zero => exact h
  | succ r => exact h.1
theorem msP_len {f : D → Option (Int × Int)} {m : Nat} {nb : Bool} {ps : List D} (h : ps.length ≠ m) (hm : m = 1 ∨ m = 2) : msP f (some (m, nb)) ps = none := by
  rcases hm with rfl | rfl
  · match ps, h with
    | [], _ => rfl
    | [a], h => exact absurd rfl h
    | a :: c :: r, _ => rfl
  · match ps, h with
    | [], _ => rfl
    | [a], _ => rfl
    | [a, c], h => exact absurd rfl h
    | a :: c :: e :: r, _ => rfl
theorem eq_nn : eqD .non .non = true := by simp [eqD, toP, PyData.eqv]
end
end HD
namespace HD
open PySem PyProof.Rows
section
variable {Xd : Err → Prop} {Q : D → Prop}
def isT (d : D) : Bool := match msD 12 d with
  | some p => decide (p.1 ≤ 40)
  | none => false
/-- plain, and its texts are texts -/
def PlS : Nat → D → Prop
  | 0, d => isPl d = true ∧ ∀ x, d = .str x → okS x
  | r + 1, d => (isPl d = true ∧ ∀ x, d = .str x → okS x) ∧ ∀ xs, d = .tup xs → ∀ x ∈ xs, PlS r x
theorem PlS.one {r : Nat} {d : D} (h : PlS r d) : isPl d = true ∧ ∀ x, d = .str x → okS x := by
  cases r with
  | zero => exact h
  | succ r => exact h.1
theorem PlS.r : ∀ {r : Nat} {d : D}, PlS r d → PlR r d
  | 0, d, h => h.1
  | r + 1, d, h => ⟨h.1.1, fun xs e x hx => (h.2 xs e x hx).r⟩
def msW : Option (Int × Int) → D
  | none => .non
  | some p => .lst [.int p.1, .int p.2]
/-! ### dict displays whose keys are unlike texts -/
def sPr (p : Str × D) : D × D := (.str p.1, p.2)
def flatP : List (Str × D) → List D
  | [] => []
  | p :: r => .str p.1 :: p.2 :: flatP r
def lensT : List (Str × D) := [("pair", .int 3), ("box", .int 3), ("half", .int 2), ("shut", .int 3), ("mark", .int 3), ("mix", .int 2)]
theorem key_str {x : Str} (h : PyData.strOk x = true) : keyOk (.str x) := ⟨h, by simp [toP, PyData.depth]⟩
def lawLoop (n : Nat) (Q : D → Prop) (Xd : Err → Prop) (w : Str) (ps : List D) (r : Nat) : Prop :=
  forD (tName 6)
    (dSeq (dAsg 7 (dCall (m_law_measure n) (dCons (dVar 6) (dCons (dOp rSub (dVar 1) (dC (D.int 1))) dNil))))
      (dSeq (dIfS (dTest (dOp rIs (dVar 7) (dC D.non))) (dRet (dC D.non)) dNext)
        (dSeq (dAsg 4 (dOp rAdd (dVar 4) (dOp rIx (dVar 7) (dC (D.int 0)))))
          (dAsg 5 (dCB rMax (dCons (dVar 5) (dCons (dOp rIx (dVar 7) (dC (D.int 1))) dNil)))))))
    ps
    { nx := dRet (dLst (dCons (dVar 4) (dCons (dOp rAdd (dVar 5) (dC (D.int 1))) dNil))) { nx := fun x => Q D.non, rt := Q, bk := fun x => False, ct := fun x => False, ex := fun x e => Xd e },
      rt := Q, bk := fun x => False, ct := fun x => False, ex := fun x e => Xd e }
    [some (Sl.val (D.tup (D.str w :: ps))), some (Sl.val (D.int ((r + 1 : Nat) : Int))), none, some (Sl.val (D.dct (List.map sPr lensT))), some (Sl.val (D.int 0)), some (Sl.val (D.int 0)), none, none, none]
end
end HD
namespace HD
open PySem PyProof.Rows
section
variable {Xd : Err → Prop} {Q : D → Prop}
theorem i_bool_D {x : List (D × D)} : isiN "bool" (.dct x) = false := rfl
theorem i_int_D {x : List (D × D)} : isiN "int" (.dct x) = false := rfl
theorem e_nnD {x : List (D × D)} : isNoneD (.dct x) = false := rfl
/-- plain data of nesting below n, small dicts too -/
def PlX : Nat → D → Prop
  | 0, _ => False
  | _ + 1, .non => True
  | _ + 1, .bl _ => True
  | _ + 1, .int _ => True
  | _ + 1, .str _ => True
  | n + 1, .tup xs => xs.length ≤ 1000000 ∧ ∀ x ∈ xs, PlX n x
  | n + 1, .lst xs => xs.length ≤ 1000000 ∧ ∀ x ∈ xs, PlX n x
  | n + 1, .dct kvs => kvs = [] ∨ ∃ k v, kvs = [(.str k, v)] ∧ okS k ∧ PlX n v
  | _ + 1, _ => False
theorem PlX.up : ∀ {n : Nat} {d : D}, PlX n d → PlX (n + 1) d
  | 0, d, h => h.elim
  | n + 1, d, h => by
    cases d with
    | tup xs => exact ⟨h.1, fun x hx => (h.2 x hx).up⟩
    | lst xs => exact ⟨h.1, fun x hx => (h.2 x hx).up⟩
    | dct kvs => exact h.imp id fun ⟨k, v, e, o, z⟩ => ⟨k, v, e, o, z.up⟩
    | non => trivial
    | bl b => trivial
    | int i => trivial
    | str s => trivial
    | _ => exact h.elim
theorem PlX.le {n m : Nat} {d : D} (h : PlX n d) (hl : n ≤ m) : PlX m d := by
  obtain ⟨k, rfl⟩ : ∃ k, m = n + k := ⟨m - n, by omega⟩
  clear hl
  induction k with
  | zero => exact h
  | succ k ih => exact ih.up
theorem PlX.of : ∀ {n : Nat} {d : D}, PlN n d → PlX n d
  | 0, d, h => h.elim
  | n + 1, d, h => by
    cases d with
    | tup xs => exact ⟨h.1, fun x hx => .of (h.2 x hx)⟩
    | lst xs => exact ⟨h.1, fun x hx => .of (h.2 x hx)⟩
    | dct kvs => exact h.elim
    | non => trivial
    | bl b => trivial
    | int i => trivial
    | str s => trivial
    | _ => exact h.elim
theorem PlX.pos {n : Nat} {d : D} (h : PlX n d) : 1 ≤ n := by
  cases n with
  | zero => exact h.elim
  | succ n => omega
theorem same_self {n : Nat} (ih : ∀ (x : D) (Xd : Err → Prop) (Q : D → Prop), PlX n x → Q (.bl true) → m_law_same n [x, x] Xd Q) {x0 : D} {xs : List D} (h0 : x0 = .tup xs ∨ x0 = .lst xs) (hx : ∀ x ∈ xs, PlX n x) (hs : xs.length ≤ 1000000)
    {R : List D → Prop} (q : R []) :
    lcD (tName 3) (dNot (dTest (dCall (m_law_same n) (dCons (dOp rIx (dVar 0) (dVar 3)) (dCons (dOp rIx (dVar 1) (dVar 3)) dNil))))) (dVar 3) (intsD 0 (xs.length : Int).toNat) [] [some (.val x0), some (.val x0), none, none] R := by
  rw [Int.toNat_natCast]
  refine lc_filtT (fun i : Nat => D.int (0 + (i : Nat))) (fun i : Nat => D.int (0 + (i : Nat))) (fun i => false) (List.range xs.length) [] (fun i hi S N hS => ?_) ?_ ?_
  · have hi : i < xs.length := by simpa using hi
    have e : (0 : Int) + (i : Nat) = (i : Int) := by omega
    have ax : L2.atI xs (i : Int) = some xs[i] := at_nat (List.getElem?_eq_getElem (by omega))
    have key : m_law_same n [xs[i], xs[i]] (fun _ => False) fun z => ∃ c, z = .bl c ∧ if (!c) = true then S (.int (i : Int)) else N :=
      ih _ _ _ (hx _ (List.getElem_mem _)) ⟨true, rfl, by simpa using hS⟩
    rcases h0 with rfl | rfl <;> (simp_arith [e, ax]; exact key)
  · simpa using Nat.le_trans hs (by decide)
  · have e : (List.range xs.length).filter (fun _ => false) = [] := List.filter_eq_nil_iff.mpr (by simp)
    rw [e]
    exact q
theorem sort1 {k : Str} (q : Q (.lst [.str k])) : rSort [.lst [.str k]] Q := ⟨[k], by simp only [List.length_singleton]; decide, .inl rfl, by simpa [sortS] using q⟩
theorem sort0 (q : Q (.lst [])) : rSort [.lst []] Q := ⟨[], by decide, .inl rfl, by simpa [sortS] using q⟩
theorem sp_same_self : ∀ (n : Nat) (x : D) (Xd : Err → Prop) (Q : D → Prop), PlX n x → Q (.bl true) → m_law_same n [x, x] Xd Q
  | 0, x, Xd, Q, hx, q => hx.elim
  | n + 1, x, Xd, Q, hx, q => by
    cases x with
    | non => simp_arith [m_law_same, i_str_B, i_str_N, i_int_B, i_int_N, i_bool_N, i_list_B, i_list_N, i_tuple_B, i_tuple_N, i_dict_B, i_dict_N, i_bool_B, e_plN, e_nnN, e_nnI, e_nnL, e_plB, e_nnB, e_depB, e_eqB, e_tf]; exact q
    | bl b => simp_arith [m_law_same, i_str_B, i_str_N, i_int_B, i_int_N, i_bool_N, i_list_B, i_list_N, i_tuple_B, i_tuple_N, i_dict_B, i_dict_N, i_bool_B, e_plN, e_nnN, e_nnI, e_nnL, e_plB, e_nnB, e_depB, e_eqB, e_tf]; exact q
    | int i => simp_arith [m_law_same, i_str_B, i_str_N, i_int_B, i_int_N, i_bool_N, i_list_B, i_list_N, i_tuple_B, i_tuple_N, i_dict_B, i_dict_N, i_bool_B, e_plN, e_nnN, e_nnI, e_nnL, e_plB, e_nnB, e_depB, e_eqB, e_tf]; exact q
    | str s => simp_arith [m_law_same, i_str_B, i_str_N, i_int_B, i_int_N, i_bool_N, i_list_B, i_list_N, i_tuple_B, i_tuple_N, i_dict_B, i_dict_N, i_bool_B, e_plN, e_nnN, e_nnI, e_nnL, e_plB, e_nnB, e_depB, e_eqB, e_tf]; exact q
    | tup xs =>
      simp_arith [m_law_same, i_str_B, i_str_N, i_int_B, i_int_N, i_bool_N, i_list_B, i_list_N, i_tuple_B, i_tuple_N, i_dict_B, i_dict_N, i_bool_B, e_plN, e_nnN, e_nnI, e_nnL, e_plB, e_nnB, e_depB, e_eqB, e_tf]
      refine ⟨by omega, by have := hx.1; omega, ?_⟩
      exact same_self (sp_same_self n) (.inl rfl) hx.2 hx.1 q
    | lst xs =>
      simp_arith [m_law_same, i_str_B, i_str_N, i_int_B, i_int_N, i_bool_N, i_list_B, i_list_N, i_tuple_B, i_tuple_N, i_dict_B, i_dict_N, i_bool_B, e_plN, e_nnN, e_nnI, e_nnL, e_plB, e_nnB, e_depB, e_eqB, e_tf]
      refine ⟨by omega, by have := hx.1; omega, ?_⟩
      exact same_self (sp_same_self n) (.inr rfl) hx.2 hx.1 q
    | dct kvs =>
      rcases hx with rfl | ⟨k, v, rfl, o, z⟩
      · simp_arith [m_law_same, i_str_B, i_str_N, i_int_B, i_int_N, i_bool_N, i_list_B, i_list_N, i_tuple_B, i_tuple_N, i_dict_B, i_dict_N, i_bool_B, e_plN, e_nnN, e_nnI, e_nnL, e_plB, e_nnB, e_depB, e_eqB, e_tf, rList, List.map_nil, i_bool_D, i_int_D, e_nnD]
        refine sort0 (sort0 ⟨rfl, rfl, by simp [depD, toP, toPs, PyData.depth, PyData.depthAll], ?_⟩)
        have e : eqD (.lst []) (.lst []) = true := by simp [eqD, toP, toPs, PyData.eqv, PyData.eqvAll]
        rw [e]
        exact q
      · simp_arith [m_law_same, i_str_B, i_str_N, i_int_B, i_int_N, i_bool_N, i_list_B, i_list_N, i_tuple_B, i_tuple_N, i_dict_B, i_dict_N, i_bool_B, e_plN, e_nnN, e_nnI, e_nnL, e_plB, e_nnB, e_depB, e_eqB, e_tf, rList, List.map_cons, List.map_nil, i_bool_D, i_int_D, e_nnD]
        have e : eqD (.lst [.str k]) (.lst [.str k]) = true := by simp [eqD, toP, toPs, PyData.eqv, PyData.eqvAll]
        have lk : lookD [(.str k, v)] (.str k) = some v := by
          unfold lookD
          rw [List.find?_cons]
          show Option.map _ (match eqD (.str k) (.str k) with | true => _ | false => _) = _
          rw [e_eqS, decide_eq_true rfl]
          rfl
        refine sort1 (sort1 ⟨rfl, rfl, by simp [depD, toP, toPs, PyData.depth, PyData.depthAll], ?_⟩)
        rw [e, if_neg (by decide)]
        refine ⟨key_str o.2, v, lk, key_str o.2, v, lk, ?_⟩
        exact sp_same_self n v _ _ z ⟨true, rfl, by simpa using q⟩
    | _ => exact hx.elim
/-! ### deep things -/
def dpD : Nat → D
  | 0 => .lst [.int 0]
  | n + 1 => .lst [dpD n]
/-! ### what is no term -/
/-- no term, whatever its room -/
structure Odd (n : Nat) (d : D) : Prop where
  no : ∀ r, msD r d = none
  pl : ∀ r, PlS r d
  px : PlX n d
theorem kind_len {w : Str} {m : Nat} {nb : Bool} (h : kindOf w = some (m, nb)) (hm : m = 1 ∨ m = 2) {ps : List D} (hl : ps.length ≠ m) (r : Nat) : msB (msD r) (.tup (.str w :: ps)) = none := by
  show msP (msD r) (kindOf w) ps = none
  rw [h, msP_len hl hm]
end
end HD
namespace KP
open PySem PyProof.Rows HD
section
variable {Xd : Err → Prop} {Q : D → Prop}
def PlsK (t : Pt) (Q : D → Prop) : Prop := ∀ ss : List Str, (ss.length : Int) ≤ t.size → (ss = [] ↔ t.cl = true) → Q (.lst (ss.map D.str))
theorem spos : ∀ t : Pt, 1 ≤ t.size
  | .lf _ => by simp [Pt.size]
  | .pair a b => by simp only [Pt.size]; have := spos a; have := spos b; omega
  | .box a b => by simp only [Pt.size]; have := spos a; have := spos b; omega
  | .half _ => by simp [Pt.size]
  | .shut _ a => by simp only [Pt.size]; have := spos a; omega
  | .mark _ a => by simp only [Pt.size]; have := spos a; omega
  | .mix a => by simp only [Pt.size]; exact spos a
/-! ### texts spoiled -/
def sTx (d : D) : Prop := ∃ T : List Nat, d = .str (St T) ∧ T.length ≤ 10000 ∧ ∀ c ∈ T, c < 200
/-! ### things that are no texts -/
theorem po_worded {t : Pt} (h : t.ok) (hd : t.depth ≤ 12) (hs : t.size ≤ 40) (hc : t.cl = true) (q : Q (.str (St t.wd))) : m_worded [t.d] Xd Q := by
  simp_arith [m_worded, m_check_term]
  refine sp_is_term h ?_
  rw [cz_of hd, decide_eq_true hs, hc]
  simp_arith [true_and]
  exact sp_m_spelled t _ _ _ h hd (by omega) q
/-- no pattern -/
def NoPat (d : D) : Prop := ∀ (Xd : Err → Prop) (Q : D → Prop), Q (.bl false) → m_is_pattern [d] Xd Q
end
end KP
namespace KP
open PySem PyProof.Rows HD
section
variable {Xd : Err → Prop} {Q : D → Prop}
end
end KP
namespace KP
open PySem PyProof.Rows HD
theorem k1 : PyData.strOk (Str.ofString "pair") = true := by decide +kernel
theorem k2 : PyData.strOk (Str.ofString "box") = true := by decide +kernel
theorem k3 : PyData.strOk (Str.ofString "half") = true := by decide +kernel
theorem k4 : PyData.strOk (Str.ofString "shut") = true := by decide +kernel
theorem k5 : PyData.strOk (Str.ofString "mark") = true := by decide +kernel
theorem k8 {s : List Nat} (h : isNm s) : PyData.strOk (St s) = true := (Tm.okS_St (by have := h.2.1; omega) fun c hc => by have := h.2.2 c hc; omega : okS (St s)).2
theorem eqd_self {d : D} (h : (toP d).canLay0 = true) : eqD d d = true := SeqAt.eqv_refl _ h
end KP
namespace HD
open PySem PyProof.Rows
section
variable {Xd : Err → Prop} {Q : D → Prop}
end
end HD
namespace HD
open PySem PyProof.Rows
section
variable {Xd : Err → Prop} {Q : D → Prop}
/-- what may be handed in as a paper -/
inductive Th : D → Prop
  | no {d : D} (h1 : isPl d = true) (h2 : isiN "list" d = false) : Th d
  | li {T : List Tm} (h1 : ∀ t ∈ T, t.fine) (h2 : T.length ≤ 100000) : Th (.lst (T.map Tm.d))
  | od {xs : List D} (h1 : ∀ x ∈ xs, PlS 12 x) (h2 : ∃ x ∈ xs, isT x = false) (h3 : xs.length ≤ 100000) : Th (.lst xs)
section
variable {H : List Tm} {t : Tm} (hf : ∀ t ∈ H, t.fine) (hl : H.length ≤ 40) (ht : t.fine)
include hf hl ht
end
end
end HD
namespace HD
open PySem PyProof.Rows
section
variable {Xd : Err → Prop} {Q : D → Prop}
/-- a thing that may be a paper, and is as deep as _law_same looks -/
structure ThQ (d : D) : Prop where
  th : Th d
  pl : isPl d = true
  px : isiN "list" d = true → PlX 106 d
end
end HD
namespace HD
open PySem PyProof.Rows
inductive Un | half | mix | left | right | read
inductive Bi | pair | box | shut | mark | unbox | unshut | check
def Un.w : Un → Str
  | .half => "half" | .mix => "mix" | .left => "left" | .right => "right" | .read => "read"
def Bi.w : Bi → Str
  | .pair => "pair" | .box => "box" | .shut => "shut" | .mark => "mark" | .unbox => "unbox" | .unshut => "unshut" | .check => "check"
/-- a step of a recipe -/
inductive Sp where
  | hd (k : Nat)
  | un (w : Un) (i : Nat)
  | bi (w : Bi) (i j : Nat)
def Sp.d : Sp → D
  | .hd k => .tup [.str "heard", .int k]
  | .un w i => .tup [.str w.w, .int i]
  | .bi w i j => .tup [.str w.w, .int i, .int j]
def Sp.at (n : Nat) : Sp → Prop
  | .hd _ => True
  | .un _ i => i < n
  | .bi _ i j => i < n ∧ j < n
/-- a term that is let -/
def Tm.let' (t : Tm) : Prop := t.ok ∧ t.depth ≤ 12 ∧ t.size ≤ 40
def chk (t : Tm) : Option Tm := if t.depth ≤ 12 ∧ t.size ≤ 40 then some t else none
def unT : Un → Tm → Option Tm
  | .half, .nm s => chk (.half s)
  | .mix, a => chk (.mix a)
  | .left, .pair a _ => some a
  | .right, .pair _ b => some b
  | .read, .mark _ a => some a
  | _, _ => none
def biT : Bi → Tm → Tm → Option Tm
  | .pair, a, b => chk (.pair a b)
  | .box, a, b => chk (.box a b)
  | .shut, .half s, b => chk (.shut s b)
  | .mark, .nm s, b => chk (.mark s b)
  | .unbox, .box k b, c => if k = c then some b else none
  | .unshut, .shut s b, c => if Tm.nm s = c then some b else none
  | .check, .mark s b, c => if c = .half s then some b else none
  | _, _, _ => none
def optD : Option Tm → D
  | none => .non
  | some t => t.d
/-- what a step tells -/
def stepT (H ts : List Tm) : Sp → Option Tm
  | .hd k => H[k]?
  | .un w i => (ts[i]?).bind (unT w)
  | .bi w i j => (ts[i]?).bind fun a => (ts[j]?).bind fun b => biT w a b
section
variable {Xd : Err → Prop} {Q : D → Prop}
end
end HD
namespace HD
open PySem PyProof.Rows
section
variable {Xd : Err → Prop} {Q : D → Prop}
theorem tn {t : Tm} {s : Str} {l : List D} (h : t.d = .tup (.str s :: l)) : isNmT t = false := by
  cases t with
  | nm x => cases h
  | _ => rfl
theorem e_addT {a b : List D} : rAdd (.tup a) (.tup b) Q = (a.length + b.length ≤ sizeLine ∧ Q (.tup (a ++ b))) := propext Iff.rfl
theorem len11 : (1 + 1 ≤ sizeLine) = True := eq_true (by decide)
theorem len12 : (1 + 2 ≤ sizeLine) = True := eq_true (by decide)
end
end HD
namespace KP
open PySem PyProof.Rows HD
/-! ### leaves, variables, patterns filled -/
def lvs : Pt → List Lf
  | .lf l => [l]
  | .pair a b => lvs a ++ lvs b
  | .box a b => lvs a ++ lvs b
  | .half l => [l]
  | .shut l a => l :: lvs a
  | .mark l a => l :: lvs a
  | .mix a => lvs a
def lfv : Lf → List (List Nat)
  | .nm _ => []
  | .vr s => [s]
def vrs (t : Pt) : List (List Nat) := (lvs t).flatMap lfv
def lput (f : List Nat → Option (List Nat)) : Lf → Lf
  | .nm s => .nm s
  | .vr s => match f s with
    | some v => .nm v
    | none => .vr s
def put (f : List Nat → Option (List Nat)) : Pt → Pt
  | .lf l => .lf (lput f l)
  | .pair a b => .pair (put f a) (put f b)
  | .box a b => .box (put f a) (put f b)
  | .half l => .half (lput f l)
  | .shut l a => .shut (lput f l) (put f a)
  | .mark l a => .mark (lput f l) (put f a)
  | .mix a => .mix (put f a)
theorem lvs_len : ∀ t : Pt, ((lvs t).length : Int) = t.size
  | .lf l => rfl
  | .pair a b => by have := lvs_len a; have := lvs_len b; simp only [lvs, Pt.size, List.length_append]; omega
  | .box a b => by have := lvs_len a; have := lvs_len b; simp only [lvs, Pt.size, List.length_append]; omega
  | .half l => rfl
  | .shut l a => by have := lvs_len a; simp only [lvs, Pt.size, List.length_cons]; omega
  | .mark l a => by have := lvs_len a; simp only [lvs, Pt.size, List.length_cons]; omega
  | .mix a => lvs_len a
/-- dicts from names to names -/
abbrev NDc := List (List Nat × List Nat)
def ndK (kvs : NDc) : List (D × D) := kvs.map fun p => (D.str (St p.1), D.str (St p.2))
structure NdOk (kvs : NDc) : Prop where
  ks : ∀ p ∈ kvs, isNm p.1
  vs : ∀ p ∈ kvs, isNm p.2
  nd : (kvs.map (·.1)).Nodup
theorem look_nd (s : List Nat) : ∀ kvs : NDc, lookD (ndK kvs) (.str (St s)) = (kvs.lookup s).map fun v => D.str (St v)
  | [] => rfl
  | (k, v) :: r => by
    have ih := look_nd s r
    unfold lookD ndK at ih ⊢
    rw [List.map_cons, List.find?_cons, e_eqS, List.lookup_cons]
    by_cases e : k = s
    · subst e
      rw [decide_eq_true rfl, beq_self_eq_true]
      rfl
    · have e2 : (s == k) = false := beq_eq_false_iff_ne.mpr (Ne.symm e)
      rw [decide_eq_false (fun z => e (St_inj.mp z)), e2]
      exact ih
theorem lookup_mem {kvs : NDc} {s v : List Nat} (h : kvs.lookup s = some v) : (s, v) ∈ kvs := by
  induction kvs with
  | nil => cases h
  | cons p r ih =>
    obtain ⟨k, w⟩ := p
    rw [List.lookup_cons] at h
    cases e : s == k with
    | true =>
      rw [e] at h
      have : w = v := Option.some.inj h
      rw [beq_iff_eq.mp e, this]
      exact List.mem_cons_self ..
    | false =>
      rw [e] at h
      exact List.mem_cons_of_mem _ (ih h)
theorem NdOk.val {kvs : NDc} (h : NdOk kvs) {s v : List Nat} (e : kvs.lookup s = some v) : isNm v := h.vs _ (lookup_mem e)
section
variable {Xd : Err → Prop} {Q : D → Prop}
theorem lc_id {x0 x1 : Option Sl} {R : List D → Prop} : ∀ (es acc : List D), acc.length + es.length ≤ 1000 → R (acc ++ es) → lcD (tName 2) dYes (dVar 2) es acc [x0, x1, none] R
  | [], acc, h, k => by
    simp_arith [true_and]
    simpa using k
  | d :: r, acc, h, k => by
    have : (1000 : Nat) < sizeLine := by decide
    simp_arith [true_and]
    exact ⟨by simp at h; omega, lc_id r (acc ++ [d]) (by simp at h ⊢; omega) (by simpa using k)⟩
theorem sp_leaves : ∀ (t : Pt) (n : Nat) (Xd : Err → Prop) (Q : D → Prop), t.depth ≤ n → t.size ≤ 40 → Q (.lst ((lvs t).map Lf.d)) → m_leaves n [t.d] Xd Q
  | t, 0, Xd, Q, h, hs, k => by have := Pt.dpos t; omega
  | .lf (.nm s), n + 1, Xd, Q, h, hs, k => by
    simp_arith [m_leaves, Pt.d, Lf.d]
    exact k
  | .lf (.vr s), n + 1, Xd, Q, h, hs, k => by
    simp_arith [m_leaves, Pt.d, Lf.d]
    exact k
  | .pair a b, n + 1, Xd, Q, h, hs, k => by
    simp only [Pt.depth, Pt.size] at h hs
    have la := lvs_len a
    have lb := lvs_len b
    have pa := spos a
    have pb := spos b
    simp_arith [m_leaves, Pt.d]
    refine sp_leaves a n _ _ (by omega) (by omega) ?_
    simp_arith [true_and]
    refine lc_id _ _ (by simp; omega) ?_
    simp_arith [true_and]
    refine sp_leaves b n _ _ (by omega) (by omega) ?_
    simp_arith [true_and]
    refine lc_id _ _ (by simp; omega) ?_
    simp_arith [true_and]
    rw [← List.map_append]
    exact k
  | .box a b, n + 1, Xd, Q, h, hs, k => by
    simp only [Pt.depth, Pt.size] at h hs
    have la := lvs_len a
    have lb := lvs_len b
    have pa := spos a
    have pb := spos b
    simp_arith [m_leaves, Pt.d]
    refine sp_leaves a n _ _ (by omega) (by omega) ?_
    simp_arith [true_and]
    refine lc_id _ _ (by simp; omega) ?_
    simp_arith [true_and]
    refine sp_leaves b n _ _ (by omega) (by omega) ?_
    simp_arith [true_and]
    refine lc_id _ _ (by simp; omega) ?_
    simp_arith [true_and]
    rw [← List.map_append]
    exact k
  | .half l, n + 1, Xd, Q, h, hs, k => by
    simp only [Pt.depth, Pt.size] at h hs
    simp_arith [m_leaves, Pt.d]
    refine sp_leaves (.lf l) n _ _ (by simp only [Pt.depth]; omega) (by simp only [Pt.size]; omega) ?_
    simp_arith [true_and]
    refine lc_id _ _ (by simp [lvs]) ?_
    simp_arith [true_and]
    exact k
  | .shut l a, n + 1, Xd, Q, h, hs, k => by
    simp only [Pt.depth, Pt.size] at h hs
    have la := lvs_len a
    have pa := spos a
    simp_arith [m_leaves, Pt.d]
    refine sp_leaves (.lf l) n _ _ (by simp only [Pt.depth]; omega) (by simp only [Pt.size]; omega) ?_
    simp_arith [true_and]
    refine lc_id _ _ (by simp [lvs]) ?_
    simp_arith [true_and]
    refine sp_leaves a n _ _ (by omega) (by omega) ?_
    simp_arith [true_and]
    refine lc_id _ _ (by simp [lvs]; omega) ?_
    simp_arith [true_and]
    exact k
  | .mark l a, n + 1, Xd, Q, h, hs, k => by
    simp only [Pt.depth, Pt.size] at h hs
    have la := lvs_len a
    have pa := spos a
    simp_arith [m_leaves, Pt.d]
    refine sp_leaves (.lf l) n _ _ (by simp only [Pt.depth]; omega) (by simp only [Pt.size]; omega) ?_
    simp_arith [true_and]
    refine lc_id _ _ (by simp [lvs]) ?_
    simp_arith [true_and]
    refine sp_leaves a n _ _ (by omega) (by omega) ?_
    simp_arith [true_and]
    refine lc_id _ _ (by simp [lvs]; omega) ?_
    simp_arith [true_and]
    exact k
  | .mix a, n + 1, Xd, Q, h, hs, k => by
    simp only [Pt.depth, Pt.size] at h hs
    have la := lvs_len a
    simp_arith [m_leaves, Pt.d]
    refine sp_leaves a n _ _ (by omega) (by omega) ?_
    simp_arith [true_and]
    refine lc_id _ _ (by simp; omega) ?_
    simp_arith [true_and]
    exact k
theorem str_rows {zs : List Str} {V : List (List Nat)} (h : ∀ z ∈ zs, z ∈ V.map St) : ∃ ss : List (List Nat), zs = ss.map St ∧ ∀ s ∈ ss, s ∈ V := by
  induction zs with
  | nil => exact ⟨[], rfl, by simp⟩
  | cons z r ih =>
    obtain ⟨ss, e, hs⟩ := ih fun z hz => h z (List.mem_cons_of_mem _ hz)
    obtain ⟨s, hs2, e2⟩ := List.mem_map.mp (h z (List.mem_cons_self ..))
    exact ⟨s :: ss, by rw [List.map_cons, e2, e], fun x hx => by rcases List.mem_cons.mp hx with rfl | hx; exact hs2; exact hs x hx⟩
theorem ky {s : List Nat} (h : isNm s) : keyOk (.str (St s)) := key_str (k8 h)
/-! ### dicts judged -/
theorem sp_is_name_dict {kvs : List (D × D)} (hl : kvs.length ≤ 1000) (h : ∀ p ∈ kvs, keyOk p.1 ∧ lookD kvs p.1 = some p.2 ∧ isPl p.1 = true ∧ isPl p.2 = true) (q : Q (.bl (kvs.all fun p => nmD1 p.1 && nmD1 p.2))) : m_is_name_dict [.dct kvs] Xd Q := by
  have s1 : (1000 : Nat) ≤ sizeLine := by decide
  simp_arith [m_is_name_dict]
  refine lc_filtT (fun p : D × D => p.1) (fun p : D × D => D.bl (nmD1 p.1 && nmD1 p.2)) (fun _ => true) kvs [] (fun p hp S N hS => ?_) (by simp; omega) ?_
  · obtain ⟨h1, h2, h3, h4⟩ := h p hp
    simp_arith [true_and]
    refine sp_is_nameD h3 ?_
    cases e : nmD1 p.1 with
    | false =>
      simp_arith [true_and]
      rw [e] at hS
      exact hS
    | true =>
      simp_arith [e_ixD]
      refine ⟨h1, _, h2, ?_⟩
      refine sp_is_nameD h4 ?_
      rw [e] at hS
      exact hS
  · rw [List.nil_append, List.filter_eq_self.mpr (by simp)]
    refine ⟨kvs.map fun p => nmD1 p.1 && nmD1 p.2, by simp, ?_⟩
    rw [List.all_map]
    exact q
theorem nmD1_nm {s : List Nat} (h : isNm s) : nmD1 (.str (St s)) = true := by
  show nmB _ = true
  rw [St_cps]
  exact nmB_iff.mpr h
theorem sp_name_dict {kvs : NDc} (h : NdOk kvs) (hl : kvs.length ≤ 1000) (q : Q (.bl true)) : m_is_name_dict [.dct (ndK kvs)] Xd Q := by
  refine sp_is_name_dict (by simpa [ndK] using hl) (fun p hp => ?_) ?_
  · obtain ⟨⟨k, v⟩, hm, rfl⟩ := List.mem_map.mp hp
    refine ⟨ky (h.ks _ hm), ?_, rfl, rfl⟩
    show lookD (ndK kvs) (.str (St k)) = _
    rw [look_nd]
    have : kvs.lookup k = some v := by
      have nd := h.nd
      clear h hl q hp
      induction kvs with
      | nil => cases hm
      | cons p r ih =>
        obtain ⟨a, b⟩ := p
        rw [List.lookup_cons]
        rw [List.map_cons, List.nodup_cons] at nd
        rcases List.mem_cons.mp hm with e | hm
        · cases e
          rw [beq_self_eq_true]
        · have : (k == a) = false := beq_eq_false_iff_ne.mpr fun e => nd.1 (by rw [← e]; exact List.mem_map.mpr ⟨_, hm, rfl⟩)
          rw [this]
          exact ih hm nd.2
    rw [this]
    rfl
  · have : ((ndK kvs).all fun p => nmD1 p.1 && nmD1 p.2) = true := by
      rw [List.all_eq_true]
      intro p hp
      obtain ⟨⟨k, v⟩, hm, rfl⟩ := List.mem_map.mp hp
      show (nmD1 (.str (St k)) && nmD1 (.str (St v))) = true
      rw [nmD1_nm (h.ks _ hm), nmD1_nm (h.vs _ hm)]
      rfl
    rw [this]
    exact q
end
end KP
namespace KP
open PySem PyProof.Rows HD
/-! ### patterns drawn over given variables -/
section
variable {Xd : Err → Prop} {Q : D → Prop}
/-! ### variables found by the law -/
def PlK (A : List (List Nat)) (Q : D → Prop) : Prop := ∀ ss : List (List Nat), ss.Nodup → (∀ s, s ∈ ss ↔ s ∈ A) → Q (.lst (nmD ss))
theorem PlK.len {A ss : List (List Nat)} (nd : ss.Nodup) (h : ∀ s, s ∈ ss ↔ s ∈ A) : ss.length ≤ A.length := few _ _ nd fun s hs => (h s).mp hs
/-! ### what filled answers -/
def NoDict (d : D) : Prop := ∀ (Xd : Err → Prop) (Q : D → Prop), Q (.bl false) → m_is_name_dict [d] Xd Q
end
end KP
namespace KP
open PySem PyProof.Rows HD
section
variable {Xd : Err → Prop} {Q : D → Prop}
/-! ### equality with itself -/
def EqS (w : D) : Prop := (∀ Q : D → Prop, Q (.bl true) → rEqX w w Q) ∧ ∀ Q : D → Prop, Q (.bl false) → rNeX w w Q
/-! ### what is no dict of names -/
def tA : List (Str × D) := [("x", .str (Str.ofString "A")), ("y", .str (Str.ofString "a")), ("zvar", .str (Str.ofString "a"))]
def tE : List (Str × D) := [("x", .str (Str.ofString "a")), ("y", .str (Str.ofString "a")), ("zvar", .str (Str.ofString "a")), ("", .str (Str.ofString "a"))]
def tT : List (Str × D) := [("x", .bl true), ("y", .str (Str.ofString "a")), ("zvar", .str (Str.ofString "a"))]
theorem f1 {k v : D} : foldP [k, v] [] = [(k, v)] := rfl
theorem ks {s : Str} (h : PyData.strOk s = true) : keyOk (.str s) := key_str h
def odds : List D := [.non, .int 0, .lst [], .str (Str.ofString ""), .lst [.tup [.str (Str.ofString "x"), .str (Str.ofString "a")]], .dct (tA.map sPr), .dct [(.str (Str.ofString "x"), .non)], .dct [(.int 0, .str (Str.ofString "a"))],
  .dct [(.tup [.str (Str.ofString "var"), .str (Str.ofString "x")], .str (Str.ofString "a"))], .dct [(.str (Str.ofString "x"), .lst [.str (Str.ofString "a")])], .dct (tE.map sPr), dpD 89, .dct (tT.map sPr), .dct [(.str (Str.ofString "x"), dpD 79)]]
def wrongs : List D := [.non, .int 0, .str (Str.ofString ""), .tup [.str (Str.ofString "var")], .tup [.str (Str.ofString "half"), .tup [.str (Str.ofString "pair"), .str (Str.ofString "a"), .str (Str.ofString "b")]], .lst [.str (Str.ofString "var"), .str (Str.ofString "x")], .dct [], dpD 89, .tup [.lst []], .tup [.str (Str.ofString "mix")]]
end
end KP
namespace KP
open PySem PyProof.Rows HD
/-! ### terms are patterns -/
def pt : Tm → Pt
  | .nm s => .lf (.nm s)
  | .pair a b => .pair (pt a) (pt b)
  | .box a b => .box (pt a) (pt b)
  | .half s => .half (.nm s)
  | .shut s a => .shut (.nm s) (pt a)
  | .mark s a => .mark (.nm s) (pt a)
  | .mix a => .mix (pt a)
theorem pt_d : ∀ t : Tm, (pt t).d = t.d
  | .nm s => rfl
  | .pair a b => by simp only [pt, Pt.d, Tm.d, pt_d a, pt_d b]
  | .box a b => by simp only [pt, Pt.d, Tm.d, pt_d a, pt_d b]
  | .half s => rfl
  | .shut s a => by simp only [pt, Pt.d, Tm.d, Lf.d, pt_d a]
  | .mark s a => by simp only [pt, Pt.d, Tm.d, Lf.d, pt_d a]
  | .mix a => by simp only [pt, Pt.d, Tm.d, pt_d a]
theorem pt_depth : ∀ t : Tm, (pt t).depth = t.depth
  | .nm s => rfl
  | .pair a b => by simp only [pt, Pt.depth, Tm.depth, pt_depth a, pt_depth b]
  | .box a b => by simp only [pt, Pt.depth, Tm.depth, pt_depth a, pt_depth b]
  | .half s => rfl
  | .shut s a => by simp only [pt, Pt.depth, Tm.depth, pt_depth a]
  | .mark s a => by simp only [pt, Pt.depth, Tm.depth, pt_depth a]
  | .mix a => by simp only [pt, Pt.depth, Tm.depth, pt_depth a]
theorem pt_size : ∀ t : Tm, (pt t).size = t.size
  | .nm s => rfl
  | .pair a b => by simp only [pt, Pt.size, Tm.size, pt_size a, pt_size b]
  | .box a b => by simp only [pt, Pt.size, Tm.size, pt_size a, pt_size b]
  | .half s => rfl
  | .shut s a => by simp only [pt, Pt.size, Tm.size, pt_size a]
  | .mark s a => by simp only [pt, Pt.size, Tm.size, pt_size a]
  | .mix a => by simp only [pt, Pt.size, Tm.size, pt_size a]
/-- the names of a term, each place -/
def nms : Tm → List (List Nat)
  | .nm s => [s]
  | .pair a b => nms a ++ nms b
  | .box a b => nms a ++ nms b
  | .half s => [s]
  | .shut s a => s :: nms a
  | .mark s a => s :: nms a
  | .mix a => nms a
theorem nms_lvs : ∀ t : Tm, lvs (pt t) = (nms t).map Lf.nm
  | .nm s => rfl
  | .pair a b => by simp only [pt, lvs, nms, nms_lvs a, nms_lvs b, List.map_append]
  | .box a b => by simp only [pt, lvs, nms, nms_lvs a, nms_lvs b, List.map_append]
  | .half s => rfl
  | .shut s a => by simp only [pt, lvs, nms, nms_lvs a, List.map_cons]
  | .mark s a => by simp only [pt, lvs, nms, nms_lvs a, List.map_cons]
  | .mix a => by simp only [pt, lvs, nms, nms_lvs a]
theorem nms_len (t : Tm) : ((nms t).length : Int) = t.size := by
  have h := lvs_len (pt t)
  rw [nms_lvs, pt_size, List.length_map] at h
  exact h
theorem nms_over {l : List (List Nat)} : ∀ t : Tm, t.over l → ∀ s ∈ nms t, s ∈ l
  | .nm s, h => by intro x hx; rw [List.mem_singleton.mp hx]; exact h
  | .pair a b, h => by intro x hx; exact (List.mem_append.mp hx).elim (nms_over a h.1 x) (nms_over b h.2 x)
  | .box a b, h => by intro x hx; exact (List.mem_append.mp hx).elim (nms_over a h.1 x) (nms_over b h.2 x)
  | .half s, h => by intro x hx; rw [List.mem_singleton.mp hx]; exact h
  | .shut s a, h => by intro x hx; exact (List.mem_cons.mp hx).elim (fun e => by rw [e]; exact h.1) (nms_over a h.2 x)
  | .mark s a, h => by intro x hx; exact (List.mem_cons.mp hx).elim (fun e => by rw [e]; exact h.1) (nms_over a h.2 x)
  | .mix a, h => nms_over a h
/-! ### names replaced -/
def nf (f : List Nat → Option (List Nat)) (s : List Nat) : List Nat := (f s).getD s
def rpl (f : List Nat → Option (List Nat)) : Tm → Tm
  | .nm s => .nm (nf f s)
  | .pair a b => .pair (rpl f a) (rpl f b)
  | .box a b => .box (rpl f a) (rpl f b)
  | .half s => .half (nf f s)
  | .shut s a => .shut (nf f s) (rpl f a)
  | .mark s a => .mark (nf f s) (rpl f a)
  | .mix a => .mix (rpl f a)
theorem rpl_depth {f : List Nat → Option (List Nat)} : ∀ t : Tm, (rpl f t).depth = t.depth
  | .nm s => rfl
  | .pair a b => by simp only [rpl, Tm.depth, rpl_depth a, rpl_depth b]
  | .box a b => by simp only [rpl, Tm.depth, rpl_depth a, rpl_depth b]
  | .half s => rfl
  | .shut s a => by simp only [rpl, Tm.depth, rpl_depth a]
  | .mark s a => by simp only [rpl, Tm.depth, rpl_depth a]
  | .mix a => by simp only [rpl, Tm.depth, rpl_depth a]
theorem rpl_size {f : List Nat → Option (List Nat)} : ∀ t : Tm, (rpl f t).size = t.size
  | .nm s => rfl
  | .pair a b => by simp only [rpl, Tm.size, rpl_size a, rpl_size b]
  | .box a b => by simp only [rpl, Tm.size, rpl_size a, rpl_size b]
  | .half s => rfl
  | .shut s a => by simp only [rpl, Tm.size, rpl_size a]
  | .mark s a => by simp only [rpl, Tm.size, rpl_size a]
  | .mix a => by simp only [rpl, Tm.size, rpl_size a]
theorem nf_ok {f : List Nat → Option (List Nat)} (hf : ∀ s v, f s = some v → isNm v) {s : List Nat} (h : isNm s) : isNm (nf f s) := by
  unfold nf
  cases e : f s with
  | none => exact h
  | some v => exact hf s v e
theorem rpl_ok {f : List Nat → Option (List Nat)} (hf : ∀ s v, f s = some v → isNm v) : ∀ t : Tm, t.ok → (rpl f t).ok
  | .nm s, h => nf_ok hf h
  | .pair a b, h => ⟨rpl_ok hf a h.1, rpl_ok hf b h.2⟩
  | .box a b, h => ⟨rpl_ok hf a h.1, rpl_ok hf b h.2⟩
  | .half s, h => nf_ok hf h
  | .shut s a, h => ⟨nf_ok hf h.1, rpl_ok hf a h.2⟩
  | .mark s a, h => ⟨nf_ok hf h.1, rpl_ok hf a h.2⟩
  | .mix a, h => rpl_ok hf a h
theorem rpl_back {f g : List Nat → Option (List Nat)} : ∀ t : Tm, (∀ s ∈ nms t, nf g (nf f s) = s) → rpl g (rpl f t) = t
  | .nm s, h => by simp only [rpl]; rw [h s (by simp [nms])]
  | .pair a b, h => by simp only [rpl]; rw [rpl_back a fun s hs => h s (by simp [nms, hs]), rpl_back b fun s hs => h s (by simp [nms, hs])]
  | .box a b, h => by simp only [rpl]; rw [rpl_back a fun s hs => h s (by simp [nms, hs]), rpl_back b fun s hs => h s (by simp [nms, hs])]
  | .half s, h => by simp only [rpl]; rw [h s (by simp [nms])]
  | .shut s a, h => by simp only [rpl]; rw [h s (by simp [nms]), rpl_back a fun s hs => h s (by simp [nms, hs])]
  | .mark s a, h => by simp only [rpl]; rw [h s (by simp [nms]), rpl_back a fun s hs => h s (by simp [nms, hs])]
  | .mix a, h => by simp only [rpl]; rw [rpl_back a fun s hs => h s (by simpa [nms] using hs)]
section
variable {Xd : Err → Prop} {Q : D → Prop}
theorem sp_replaced : ∀ (t : Tm) (n : Nat) (Xd : Err → Prop) (Q : D → Prop) {kvs : NDc}, t.ok → t.depth ≤ n → NdOk kvs → Q (rpl (kvs.lookup ·) t).d → m_replaced n [t.d, .dct (ndK kvs)] Xd Q
  | t, 0, Xd, Q, kvs, h, hd, hk, q => by have := Tm.dpos t; omega
  | .nm s, n + 1, Xd, Q, kvs, h, hd, hk, q => by
    simp_arith [m_replaced, Tm.d]
    refine ⟨ky h, ?_⟩
    rw [look_nd]
    simp only [rpl, nf] at q
    cases e : kvs.lookup s with
    | none => rw [e] at q; exact q
    | some v => rw [e] at q; exact q
  | .pair a b, n + 1, Xd, Q, kvs, h, hd, hk, q => by
    simp only [Tm.depth] at hd
    simp_arith [m_replaced, Tm.d]
    refine sp_replaced a n _ _ h.1 (by omega) hk ?_
    refine sp_replaced b n _ _ h.2 (by omega) hk ?_
    simp_arith [rTuple, e_addT, len12]
    exact q
  | .box a b, n + 1, Xd, Q, kvs, h, hd, hk, q => by
    simp only [Tm.depth] at hd
    simp_arith [m_replaced, Tm.d]
    refine sp_replaced a n _ _ h.1 (by omega) hk ?_
    refine sp_replaced b n _ _ h.2 (by omega) hk ?_
    simp_arith [rTuple, e_addT, len12]
    exact q
  | .half s, n + 1, Xd, Q, kvs, h, hd, hk, q => by
    simp only [Tm.depth] at hd
    simp_arith [m_replaced, Tm.d]
    refine sp_replaced (.nm s) n _ _ h (by simp only [Tm.depth]; omega) hk ?_
    simp_arith [rTuple, e_addT, len11]
    exact q
  | .shut s a, n + 1, Xd, Q, kvs, h, hd, hk, q => by
    simp only [Tm.depth] at hd
    simp_arith [m_replaced, Tm.d]
    refine sp_replaced (.nm s) n _ _ h.1 (by simp only [Tm.depth]; omega) hk ?_
    refine sp_replaced a n _ _ h.2 (by omega) hk ?_
    simp_arith [rTuple, e_addT, len12]
    exact q
  | .mark s a, n + 1, Xd, Q, kvs, h, hd, hk, q => by
    simp only [Tm.depth] at hd
    simp_arith [m_replaced, Tm.d]
    refine sp_replaced (.nm s) n _ _ h.1 (by simp only [Tm.depth]; omega) hk ?_
    refine sp_replaced a n _ _ h.2 (by omega) hk ?_
    simp_arith [rTuple, e_addT, len12]
    exact q
  | .mix a, n + 1, Xd, Q, kvs, h, hd, hk, q => by
    simp only [Tm.depth] at hd
    simp_arith [m_replaced, Tm.d]
    refine sp_replaced a n _ _ h (by omega) hk ?_
    simp_arith [rTuple, e_addT, len11]
    exact q
theorem nm_rows (L : List (List Nat)) : (L.map Lf.nm).map Lf.d = nmD L := by simp [nmD, Function.comp_def, Lf.d]
theorem sp_leavesT {t : Tm} (hd : t.depth ≤ 12) (hs : t.size ≤ 40) (q : Q (.lst (nmD (nms t)))) : m_leaves 16 [t.d] Xd Q := by
  rw [← pt_d]
  refine sp_leaves (pt t) 16 _ _ (by rw [pt_depth]; omega) (by rw [pt_size]; exact hs) ?_
  rw [nms_lvs, nm_rows]
  exact q
theorem sp_names_of {t : Tm} (h : t.ok) (hd : t.depth ≤ 12) (hs : t.size ≤ 40) (q : Q (.lst ((sortS (uniS ((nms t).map St))).map D.str))) : m_names_of [t.d] Xd Q := by
  have ll := nms_len t
  simp_arith [m_names_of]
  refine HD.sp_check_term h hd hs ?_
  refine sp_leavesT hd hs ?_
  exact ⟨(nms t).map St, by simp; omega, .inl (by simp [nmD, Function.comp_def]), q⟩
theorem sp_size_of {t : Tm} (h : t.ok) (hd : t.depth ≤ 12) (hs : t.size ≤ 40) (q : Q (.int t.size)) : m_size_of [t.d] Xd Q := by
  have ll := nms_len t
  simp_arith [m_size_of]
  refine HD.sp_check_term h hd hs ?_
  refine sp_leavesT hd hs ?_
  have e : ((nmD (nms t)).length : Int) = t.size := by simp [nmD, ll]
  simp_arith [e]
  exact q
theorem sp_depth_of {t : Tm} (h : t.ok) (hd : t.depth ≤ 12) (hs : t.size ≤ 40) (q : Q (.int t.depth)) : m_depth_of [t.d] Xd Q := by
  simp_arith [m_depth_of]
  refine HD.sp_check_term h hd hs ?_
  refine HD.sp_measure t 13 _ _ _ h (by omega) (by omega) ?_
  simp_arith [true_and]
  exact q
theorem sp_renamed {t : Tm} {kvs : NDc} (h : t.ok) (hd : t.depth ≤ 12) (hs : t.size ≤ 40) (hk : NdOk kvs) (hl : kvs.length ≤ 1000) (q : Q (rpl (kvs.lookup ·) t).d) : m_renamed [t.d, .dct (ndK kvs)] Xd Q := by
  simp_arith [m_renamed]
  refine HD.sp_check_term h hd hs ?_
  refine sp_name_dict hk hl ?_
  simp_arith [true_and]
  exact sp_replaced t 16 _ _ h (by omega) hk q
end
end KP
namespace KP
open PySem PyProof.Rows HD
/-! ### tables (as in U03) -/
def ndPut (kvs : NDc) (s v : List Nat) : NDc := if (kvs.lookup s).isSome then kvs.map (fun p => if p.1 = s then (p.1, v) else p) else kvs ++ [(s, v)]
theorem set_ndP {kvs : NDc} {s v : List Nat} : setD (ndK kvs) (.str (St s)) (.str (St v)) = ndK (ndPut kvs s v) := by
  unfold setD ndPut
  rw [look_nd, Option.isSome_map]
  cases e : (kvs.lookup s).isSome with
  | false => simp [ndK]
  | true =>
    rw [if_pos rfl, if_pos rfl]
    unfold ndK
    rw [List.map_map, List.map_map]
    refine List.map_congr_left fun p _ => ?_
    show (if eqD (.str (St p.1)) (.str (St s)) = true then _ else _) = _
    rw [e_eqS]
    by_cases c : p.1 = s
    · rw [if_pos (by rw [c]; exact decide_eq_true rfl)]
      show _ = (D.str (St (if p.1 = s then (p.1, v) else p).1), D.str (St (if p.1 = s then (p.1, v) else p).2))
      rw [if_pos c]
    · rw [if_neg (by intro z; exact c (St_inj.mp (of_decide_eq_true z)))]
      show _ = (D.str (St (if p.1 = s then (p.1, v) else p).1), D.str (St (if p.1 = s then (p.1, v) else p).2))
      rw [if_neg c]
/-! ### a pattern fitted to a term -/
def fitN (x s : List Nat) (kvs : NDc) : Option NDc := if (kvs.lookup x).getD s = s then some (ndPut kvs x s) else none
def fitL : Lf → List Nat → NDc → Option NDc
  | .vr x, s, kvs => fitN x s kvs
  | .nm a, s, kvs => if a = s then some kvs else none
def fit : Pt → Tm → NDc → Option NDc
  | .lf l, .nm s, kvs => fitL l s kvs
  | .pair a b, .pair c d, kvs => (fit a c kvs).bind (fit b d)
  | .box a b, .box c d, kvs => (fit a c kvs).bind (fit b d)
  | .half l, .half s, kvs => fitL l s kvs
  | .shut l a, .shut s c, kvs => (fitL l s kvs).bind (fit a c)
  | .mark l a, .mark s c, kvs => (fitL l s kvs).bind (fit a c)
  | .mix a, .mix c, kvs => fit a c kvs
  | _, _, _ => none
def optK : Option NDc → D
  | some k => .dct (ndK k)
  | none => .non
section
end
end KP
namespace KP
open PySem PyProof.Rows HD
section
variable {Xd : Err → Prop} {Q : D → Prop}
theorem strs_ok : ∀ zs : List Str, (∀ z ∈ zs, PyData.strOk z = true) → okDs (zs.map D.str) = true ∧ PyData.canLayAll0 (toPs (zs.map D.str)) = true ∧ PyData.depthAll (toPs (zs.map D.str)) = 0
  | [], _ => ⟨rfl, rfl, rfl⟩
  | z :: r, h => by
    obtain ⟨h1, h2, h3⟩ := strs_ok r fun y hy => h y (List.mem_cons_of_mem _ hy)
    have hz := h z (List.mem_cons_self ..)
    exact ⟨by simp [okDs, okD, h1], by simp [toPs, toP, PyData.canLayAll0, PyData.canLay0, hz, h2], by simp [toPs, toP, PyData.depthAll, PyData.depth, h3]⟩
end
end KP
namespace KP
open PySem PyProof.Rows HD
/-! ### plain laws of fitting -/
/-! ### the term of a filled pattern -/
def tmL (f : List Nat → Option (List Nat)) : Lf → List Nat
  | .nm s => s
  | .vr s => (f s).getD []
def tm (f : List Nat → Option (List Nat)) : Pt → Tm
  | .lf l => .nm (tmL f l)
  | .pair a b => .pair (tm f a) (tm f b)
  | .box a b => .box (tm f a) (tm f b)
  | .half l => .half (tmL f l)
  | .shut l a => .shut (tmL f l) (tm f a)
  | .mark l a => .mark (tmL f l) (tm f a)
  | .mix a => .mix (tm f a)
end KP
namespace KP
open PySem PyProof.Rows HD
section
variable {Xd : Err → Prop} {Q : D → Prop}
def only (kvs : NDc) (ss : List (List Nat)) : NDc := ss.map fun s => (s, (kvs.lookup s).getD [])
end
end KP
namespace KP
open PySem PyProof.Rows HD
/-! ### patterns with names renamed -/
def lanew (f : List Nat → Option (List Nat)) : Lf → Lf
  | .nm s => .nm (nf f s)
  | .vr s => .vr s
def anew (f : List Nat → Option (List Nat)) : Pt → Pt
  | .lf l => .lf (lanew f l)
  | .pair a b => .pair (anew f a) (anew f b)
  | .box a b => .box (anew f a) (anew f b)
  | .half l => .half (lanew f l)
  | .shut l a => .shut (lanew f l) (anew f a)
  | .mark l a => .mark (lanew f l) (anew f a)
  | .mix a => .mix (anew f a)
end KP
namespace KP
open PySem PyProof.Rows HD
section
variable {Xd : Err → Prop} {Q : D → Prop}
end
end KP
namespace KP
open PySem PyProof.Rows HD
/-! ### more of filled patterns -/
theorem ok_pt : ∀ t : Tm, t.ok → (pt t).ok
  | .nm s, h => h
  | .pair a b, h => ⟨ok_pt a h.1, ok_pt b h.2⟩
  | .box a b, h => ⟨ok_pt a h.1, ok_pt b h.2⟩
  | .half s, h => h
  | .shut s a, h => ⟨h.1, ok_pt a h.2⟩
  | .mark s a, h => ⟨h.1, ok_pt a h.2⟩
  | .mix a, h => ok_pt a h
/-- sorted(set(xs)) of names -/
theorem uni_names (zs : List (List Nat)) : ∃ ss : List (List Nat), (sortS (uniS (zs.map St))).map D.str = nmD ss ∧ ss.Nodup ∧ ∀ s, s ∈ ss ↔ s ∈ zs := by
  have pm := sortS_perm (uniS (zs.map St))
  have nd := (pm.nodup_iff).mpr (uniS_nodup (zs.map St))
  have mem : ∀ z, z ∈ sortS (uniS (zs.map St)) ↔ z ∈ zs.map St := fun z => pm.mem_iff.trans uniS_mem
  obtain ⟨ss, e, h1⟩ := str_rows fun z hz => (mem z).mp hz
  rw [e] at nd mem
  refine ⟨ss, by rw [e, List.map_map]; rfl, ?_, fun s => ⟨h1 s, fun z => ?_⟩⟩
  · unfold List.Nodup at nd ⊢
    rw [List.pairwise_map] at nd
    exact nd.imp fun n e => n (by rw [e])
  · obtain ⟨y, hy, ey⟩ := List.mem_map.mp ((mem (St s)).mpr (List.mem_map.mpr ⟨s, z, rfl⟩))
    rw [← St_inj.mp ey]
    exact hy
end KP
namespace KP
open PySem PyProof.Rows HD
/-! ### all parts of a term -/
def allp : Tm → List Tm
  | .nm s => [.nm s]
  | .pair a b => .pair a b :: (allp a ++ allp b)
  | .box a b => .box a b :: (allp a ++ allp b)
  | .half s => [.half s, .nm s]
  | .shut s a => .shut s a :: .nm s :: allp a
  | .mark s a => .mark s a :: .nm s :: allp a
  | .mix a => .mix a :: allp a
theorem ins_addP {L M : List Tm} {x : Tm} : ins (addP L M) x = addP L (ins M x) := by
  unfold ins
  by_cases m : x ∈ M
  · rw [if_pos (mem_addP.mpr (.inr m)), if_pos m]
  · rw [if_neg m]
    by_cases l : x ∈ L
    · rw [if_pos (mem_addP.mpr (.inl l))]
      simp [addP, l]
    · rw [if_neg (fun z => (mem_addP.mp z).elim l m)]
      simp [addP, l]
theorem addP_nil {L : List Tm} : addP L [] = L := by simp [addP]
theorem addAll_addP : ∀ (xs L M : List Tm), addAll (addP L M) xs = addP L (addAll M xs)
  | [], L, M => rfl
  | x :: r, L, M => by
    show addAll (ins (addP L M) x) r = addP L (addAll (ins M x) r)
    rw [ins_addP]
    exact addAll_addP r L (ins M x)
theorem addAll_eq {L xs : List Tm} : addAll L xs = addP L (addAll [] xs) := by
  have := addAll_addP xs L []
  rw [addP_nil] at this
  exact this
theorem addAll_app {L xs ys : List Tm} : addAll L (xs ++ ys) = addAll (addAll L xs) ys := by simp [addAll, List.foldl_append]
theorem addAll_cons {L xs : List Tm} {x : Tm} : addAll L (x :: xs) = addAll (ins L x) xs := rfl
theorem ins_nil {x : Tm} : ins [] x = [x] := rfl
theorem allp_parts : ∀ t : Tm, addAll [] (allp t) = t.partsL
  | .nm s => rfl
  | .pair a b => by simp only [allp, Tm.partsL]; rw [addAll_cons, ins_nil, addAll_app, addAll_eq (xs := allp a), allp_parts a, addAll_eq (xs := allp b), allp_parts b]
  | .box a b => by simp only [allp, Tm.partsL]; rw [addAll_cons, ins_nil, addAll_app, addAll_eq (xs := allp a), allp_parts a, addAll_eq (xs := allp b), allp_parts b]
  | .half s => by
    simp only [allp, Tm.partsL]
    rw [addAll_cons, ins_nil, addAll_eq]
    rfl
  | .shut s a => by
    simp only [allp, Tm.partsL]
    rw [addAll_cons, ins_nil, show Tm.nm s :: allp a = [Tm.nm s] ++ allp a from rfl, addAll_app, addAll_eq (xs := [Tm.nm s]), addAll_eq (xs := allp a), allp_parts a]
    rfl
  | .mark s a => by
    simp only [allp, Tm.partsL]
    rw [addAll_cons, ins_nil, show Tm.nm s :: allp a = [Tm.nm s] ++ allp a from rfl, addAll_app, addAll_eq (xs := [Tm.nm s]), addAll_eq (xs := allp a), allp_parts a]
    rfl
  | .mix a => by simp only [allp, Tm.partsL]; rw [addAll_cons, ins_nil, addAll_eq, allp_parts a]
theorem parts_nd (t : Tm) : t.partsL.Nodup := by
  rw [← allp_parts]
  exact nodup_addAll (by simp)
theorem allp_mem {t u : Tm} : u ∈ allp t ↔ u ∈ t.partsL := by
  rw [← allp_parts, mem_addAll]
  simp
theorem allp_len : ∀ (t : Tm) (n : Nat), t.depth ≤ n → (allp t).length + 1 ≤ 2 ^ n
  | .nm s, n, h => by
    simp only [Tm.depth] at h
    have := two_le (n := n) (by omega)
    simp only [allp, List.length_singleton]
    omega
  | .pair a b, n, h => by
    simp only [Tm.depth] at h
    have := Tm.dpos a
    obtain ⟨n, rfl⟩ := Nat.exists_eq_succ_of_ne_zero (show n ≠ 0 by omega)
    have h1 := allp_len a n (by omega)
    have h2 := allp_len b n (by omega)
    simp only [allp, List.length_cons, List.length_append, Nat.pow_succ]
    omega
  | .box a b, n, h => by
    simp only [Tm.depth] at h
    have := Tm.dpos a
    obtain ⟨n, rfl⟩ := Nat.exists_eq_succ_of_ne_zero (show n ≠ 0 by omega)
    have h1 := allp_len a n (by omega)
    have h2 := allp_len b n (by omega)
    simp only [allp, List.length_cons, List.length_append, Nat.pow_succ]
    omega
  | .half s, n, h => by
    simp only [Tm.depth] at h
    obtain ⟨n, rfl⟩ := Nat.exists_eq_succ_of_ne_zero (show n ≠ 0 by omega)
    have := two_le (n := n) (by omega)
    simp only [allp, List.length_cons, List.length_nil, Nat.pow_succ]
    omega
  | .shut s a, n, h => by
    simp only [Tm.depth] at h
    have := Tm.dpos a
    obtain ⟨n, rfl⟩ := Nat.exists_eq_succ_of_ne_zero (show n ≠ 0 by omega)
    have h1 := allp_len a n (by omega)
    have := two_le (n := n) (by omega)
    simp only [allp, List.length_cons, Nat.pow_succ]
    omega
  | .mark s a, n, h => by
    simp only [Tm.depth] at h
    have := Tm.dpos a
    obtain ⟨n, rfl⟩ := Nat.exists_eq_succ_of_ne_zero (show n ≠ 0 by omega)
    have h1 := allp_len a n (by omega)
    have := two_le (n := n) (by omega)
    simp only [allp, List.length_cons, Nat.pow_succ]
    omega
  | .mix a, n, h => by
    simp only [Tm.depth] at h
    have := Tm.dpos a
    obtain ⟨n, rfl⟩ := Nat.exists_eq_succ_of_ne_zero (show n ≠ 0 by omega)
    have h1 := allp_len a n (by omega)
    have := Nat.pow_pos (n := n) (show 0 < 2 by decide)
    simp only [allp, List.length_cons, Nat.pow_succ]
    omega
theorem parts_len12 {t : Tm} (h : t.depth ≤ 12) : (allp t).length ≤ 4095 := by
  have := allp_len t 12 h
  omega
section
variable {Xd : Err → Prop} {Q : D → Prop}
theorem lc_idL {x0 x1 : Option Sl} {R : List D → Prop} : ∀ (es acc : List D), acc.length + es.length ≤ 100000 → R (acc ++ es) → lcD (tName 2) dYes (dVar 2) es acc [x0, x1, none] R
  | [], acc, h, k => by
    simp_arith [true_and]
    simpa using k
  | d :: r, acc, h, k => by
    have : (100000 : Nat) < sizeLine := by decide
    simp_arith [true_and]
    exact ⟨by simp at h; omega, lc_idL r (acc ++ [d]) (by simp at h ⊢; omega) (by simpa using k)⟩
theorem big1 {a : Nat} (h : a ≤ 100000) : (1 + a ≤ sizeLine) = True := eq_true (Nat.le_trans (show _ ≤ 100001 by omega) (by decide))
theorem sp_all_parts : ∀ (t : Tm) (n : Nat) (Xd : Err → Prop) (Q : D → Prop), t.depth ≤ n → t.depth ≤ 12 → Q (.lst ((allp t).map Tm.d)) → m_all_parts n [t.d] Xd Q
  | t, 0, Xd, Q, h, hs, k => by have := Tm.dpos t; omega
  | .nm s, n + 1, Xd, Q, h, hs, k => by
    simp_arith [m_all_parts, Tm.d]
    exact k
  | .pair a b, n + 1, Xd, Q, h, hs, k => by
    simp only [Tm.depth] at h hs
    have la := parts_len12 (t := a) (by omega)
    have lb := parts_len12 (t := b) (by omega)
    simp_arith [m_all_parts, Tm.d]
    refine sp_all_parts a n _ _ (by omega) (by omega) ?_
    simp_arith [true_and]
    refine lc_idL _ _ (by simp; omega) ?_
    simp_arith [true_and]
    refine sp_all_parts b n _ _ (by omega) (by omega) ?_
    simp_arith [true_and]
    refine lc_idL _ _ (by simp; omega) ?_
    simp_arith [true_and]
    refine ⟨of_eq_true (big1 (by simp; omega)), ?_⟩
    simpa [allp, Tm.d] using k
  | .box a b, n + 1, Xd, Q, h, hs, k => by
    simp only [Tm.depth] at h hs
    have la := parts_len12 (t := a) (by omega)
    have lb := parts_len12 (t := b) (by omega)
    simp_arith [m_all_parts, Tm.d]
    refine sp_all_parts a n _ _ (by omega) (by omega) ?_
    simp_arith [true_and]
    refine lc_idL _ _ (by simp; omega) ?_
    simp_arith [true_and]
    refine sp_all_parts b n _ _ (by omega) (by omega) ?_
    simp_arith [true_and]
    refine lc_idL _ _ (by simp; omega) ?_
    simp_arith [true_and]
    refine ⟨of_eq_true (big1 (by simp; omega)), ?_⟩
    simpa [allp, Tm.d] using k
  | .half s, n + 1, Xd, Q, h, hs, k => by
    simp only [Tm.depth] at h hs
    simp_arith [m_all_parts, Tm.d]
    refine sp_all_parts (.nm s) n _ _ (by simp only [Tm.depth]; omega) (by simp only [Tm.depth]; omega) ?_
    simp_arith [true_and]
    refine lc_idL _ _ (by simp [allp]) ?_
    simp_arith [true_and]
    refine ⟨by simp [allp]; decide, ?_⟩
    simpa [allp, Tm.d] using k
  | .shut s a, n + 1, Xd, Q, h, hs, k => by
    simp only [Tm.depth] at h hs
    have la := parts_len12 (t := a) (by omega)
    simp_arith [m_all_parts, Tm.d]
    refine sp_all_parts (.nm s) n _ _ (by simp only [Tm.depth]; omega) (by simp only [Tm.depth]; omega) ?_
    simp_arith [true_and]
    refine lc_idL _ _ (by simp [allp]) ?_
    simp_arith [true_and]
    refine sp_all_parts a n _ _ (by omega) (by omega) ?_
    simp_arith [true_and]
    refine lc_idL _ _ (by simp [allp]; omega) ?_
    simp_arith [true_and]
    refine ⟨of_eq_true (big1 (by simp [allp]; omega)), ?_⟩
    simpa [allp, Tm.d] using k
  | .mark s a, n + 1, Xd, Q, h, hs, k => by
    simp only [Tm.depth] at h hs
    have la := parts_len12 (t := a) (by omega)
    simp_arith [m_all_parts, Tm.d]
    refine sp_all_parts (.nm s) n _ _ (by simp only [Tm.depth]; omega) (by simp only [Tm.depth]; omega) ?_
    simp_arith [true_and]
    refine lc_idL _ _ (by simp [allp]) ?_
    simp_arith [true_and]
    refine sp_all_parts a n _ _ (by omega) (by omega) ?_
    simp_arith [true_and]
    refine lc_idL _ _ (by simp [allp]; omega) ?_
    simp_arith [true_and]
    refine ⟨of_eq_true (big1 (by simp [allp]; omega)), ?_⟩
    simpa [allp, Tm.d] using k
  | .mix a, n + 1, Xd, Q, h, hs, k => by
    simp only [Tm.depth] at h hs
    have la := parts_len12 (t := a) (by omega)
    simp_arith [m_all_parts, Tm.d]
    refine sp_all_parts a n _ _ (by omega) (by omega) ?_
    simp_arith [true_and]
    refine lc_idL _ _ (by simp; omega) ?_
    simp_arith [true_and]
    refine ⟨of_eq_true (big1 (by simp; omega)), ?_⟩
    simpa [allp, Tm.d] using k
theorem dc_keys2 {x0 : Option Sl} {R : List (D × D) → Prop} : ∀ (ts L : List Tm), (∀ t ∈ ts, t.ok ∧ t.depth ≤ 9) → L.length + ts.length < sizeLine → R (dk (addAll L ts)) → dcD (tName 1) dYes (dVar 1) (dC (.bl true)) (ts.map Tm.d) (dk L) [x0, none] R
  | [], L, _, _, h => by
    simp_arith [true_and]
    exact h
  | t :: r, L, ho, hl, h => by
    have ko := eq_true (Tm.keyOk (ho t (List.mem_cons_self ..)).1 (ho t (List.mem_cons_self ..)).2)
    have hl' : L.length < sizeLine := by simp at hl; omega
    simp_arith [ko, len_dk, hl', set_dk]
    refine dc_keys2 r (ins L t) (fun u hu => ho u (List.mem_cons_of_mem _ hu)) ?_ h
    have : (ins L t).length ≤ L.length + 1 := by
      unfold ins
      split <;> simp
    simp at hl
    omega
theorem parts_ok : ∀ t : Tm, t.ok → ∀ u ∈ t.partsL, u.ok :=
  Tm.parts_all (fun _ _ h => h) (fun _ _ h => h) (fun _ h => h) (fun _ _ h => h) (fun _ _ h => h) (fun _ h => h)
theorem sp_parts_of {t : Tm} (h : t.ok) (hd : t.depth ≤ 9) (hs : t.size ≤ 40) (q : Q (.lst (t.partsL.map Tm.d))) : m_parts_of [t.d] Xd Q := by
  have la := parts_len12 (t := t) (by omega)
  simp_arith [m_parts_of]
  refine HD.sp_check_term h (by omega) hs ?_
  refine sp_all_parts t 16 _ _ (by omega) (by omega) ?_
  simp_arith [true_and]
  have z : (0 : Nat) + (allp t).length < sizeLine := Nat.lt_of_le_of_lt (show _ ≤ 4095 by omega) (by decide)
  refine dc_keys2 (allp t) [] (fun u hu => ?_) z ?_
  · have m := allp_mem.mp hu
    exact ⟨parts_ok t h u m, (Tm.parts_small (n := 9) (m := 40) t ⟨hd, hs⟩ u m).1⟩
  rw [allp_parts]
  simp_arith [rList]
  rw [keys_dk]
  exact q
end
theorem plx_tm {t : Tm} (h : t.depth ≤ 12) (n : Nat) (hn : 13 ≤ n) : PlX n t.d := (PlX.of (PlN.term t 13 (by omega))).le hn
/-! ### the wordings of parts stand in that of the whole -/
theorem part_infix : ∀ (t u : Tm), u ∈ t.partsL → u.wd <:+: t.wd
  | .nm s, u, h => by
    simp [Tm.partsL] at h
    rw [h]
    exact List.infix_rfl
  | .pair a b, u, h => by
    simp only [Tm.partsL, mem_addP, List.mem_singleton] at h
    rcases h with (rfl | h) | h
    · exact List.infix_rfl
    · exact (part_infix a u h).trans ⟨[40], [32, 38, 32] ++ b.wd ++ [41], by simp [Tm.wd]⟩
    · exact (part_infix b u h).trans ⟨[40] ++ a.wd ++ [32, 38, 32], [41], by simp [Tm.wd]⟩
  | .box a b, u, h => by
    simp only [Tm.partsL, mem_addP, List.mem_singleton] at h
    rcases h with (rfl | h) | h
    · exact List.infix_rfl
    · refine (part_infix a u h).trans ?_
      have : a.wd <:+: Tm.key a.wd a := by
        cases a <;> first | exact List.infix_rfl | exact ⟨[60], [62], rfl⟩
      exact this.trans ⟨[91] ++ b.wd ++ [93], [], by simp [Tm.wd]⟩
    · exact (part_infix b u h).trans ⟨[91], [93] ++ Tm.key a.wd a, by simp [Tm.wd]⟩
  | .half s, u, h => by
    simp only [Tm.partsL, mem_addP, List.mem_singleton] at h
    rcases h with rfl | rfl
    · exact List.infix_rfl
    · exact ⟨[104, 97, 108, 102, 32], [], by simp [Tm.wd]⟩
  | .shut s a, u, h => by
    simp only [Tm.partsL, mem_addP, List.mem_singleton] at h
    rcases h with (rfl | rfl) | h
    · exact List.infix_rfl
    · exact ⟨[123] ++ a.wd ++ [125], [], by simp [Tm.wd]⟩
    · exact (part_infix a u h).trans ⟨[123], [125] ++ s, by simp [Tm.wd]⟩
  | .mark s a, u, h => by
    simp only [Tm.partsL, mem_addP, List.mem_singleton] at h
    rcases h with (rfl | rfl) | h
    · exact List.infix_rfl
    · exact ⟨[40] ++ a.wd ++ [33], [41], by simp [Tm.wd]⟩
    · exact (part_infix a u h).trans ⟨[40], [33] ++ s ++ [41], by simp [Tm.wd]⟩
  | .mix a, u, h => by
    simp only [Tm.partsL, mem_addP, List.mem_singleton] at h
    rcases h with rfl | h
    · exact List.infix_rfl
    · exact (part_infix a u h).trans ⟨[109, 105, 120, 40], [41], by simp [Tm.wd]⟩
theorem has_infix {t w : List Nat} (h : w <:+: t) : hasT (St t) (St w) = true := by
  obtain ⟨p, q, e⟩ := h
  refine (StrLaws.found_iff (St t) (St w)).mpr ⟨p.length, ?_, ?_⟩
  · rw [St_len, St_len, ← e]
    simp
  · unfold PySem.Builtin.Str.subAt
    rw [St_len, beq_iff_eq, ← Array.toList_inj, ← e]
    simp [HD.St]
/-! ### parts of renamed terms -/
theorem addP_map {f : Tm → Tm} {A B : List Tm} (inj : ∀ x ∈ A, ∀ y ∈ B, f x = f y → x = y) : addP (A.map f) (B.map f) = (addP A B).map f := by
  unfold addP
  rw [List.map_append, List.filter_map]
  congr 2
  refine List.filter_congr fun y hy => ?_
  simp only [Function.comp_apply]
  congr 1
  refine decide_eq_decide.mpr ⟨fun h => ?_, fun h => List.mem_map.mpr ⟨y, h, rfl⟩⟩
  obtain ⟨x, hx, e⟩ := List.mem_map.mp h
  rw [← inj x hx y hy e]
  exact hx
theorem parts_rpl {f : List Nat → Option (List Nat)} {P : Tm → Prop} (h1 : ∀ a b, P (.pair a b) → P a ∧ P b) (h2 : ∀ a b, P (.box a b) → P a ∧ P b) (h3 : ∀ s, P (.half s) → P (.nm s)) (h4 : ∀ s a, P (.shut s a) → P (.nm s) ∧ P a) (h5 : ∀ s a, P (.mark s a) → P (.nm s) ∧ P a) (h6 : ∀ a, P (.mix a) → P a)
    (inj : ∀ x y, P x → P y → rpl f x = rpl f y → x = y) : ∀ t : Tm, P t → (rpl f t).partsL = t.partsL.map (rpl f) := by
  have all := Tm.parts_all h1 h2 h3 h4 h5 h6
  have mem : ∀ {A B : List Tm}, (∀ x ∈ A, P x) → (∀ x ∈ B, P x) → ∀ x ∈ addP A B, P x := fun hA hB x hx => (mem_addP.mp hx).elim (hA x) (hB x)
  have one : ∀ {x : Tm}, P x → ∀ y ∈ [x], P y := fun h y hy => by rw [List.mem_singleton.mp hy]; exact h
  have am : ∀ {A B : List Tm}, (∀ x ∈ A, P x) → (∀ x ∈ B, P x) → addP (A.map (rpl f)) (B.map (rpl f)) = (addP A B).map (rpl f) := fun hA hB => addP_map fun x hx y hy e => inj x y (hA x hx) (hB y hy) e
  intro t
  induction t with
  | nm s => intro _; rfl
  | pair a b i1 i2 =>
    intro h
    have pa := (h1 a b h).1
    have pb := (h1 a b h).2
    simp only [rpl, Tm.partsL]
    rw [i1 pa, i2 pb, ← am (mem (one h) (all a pa)) (all b pb), ← am (one h) (all a pa)]
    rfl
  | box a b i1 i2 =>
    intro h
    have pa := (h2 a b h).1
    have pb := (h2 a b h).2
    simp only [rpl, Tm.partsL]
    rw [i1 pa, i2 pb, ← am (mem (one h) (all a pa)) (all b pb), ← am (one h) (all a pa)]
    rfl
  | half s =>
    intro h
    have ps := h3 s h
    simp only [rpl, Tm.partsL]
    rw [← am (one h) (one ps)]
    rfl
  | shut s a i =>
    intro h
    have ps := (h4 s a h).1
    have pa := (h4 s a h).2
    simp only [rpl, Tm.partsL]
    rw [i pa, ← am (mem (one h) (one ps)) (all a pa), ← am (one h) (one ps)]
    rfl
  | mark s a i =>
    intro h
    have ps := (h5 s a h).1
    have pa := (h5 s a h).2
    simp only [rpl, Tm.partsL]
    rw [i pa, ← am (mem (one h) (one ps)) (all a pa), ← am (one h) (one ps)]
    rfl
  | mix a i =>
    intro h
    have pa := h6 a h
    simp only [rpl, Tm.partsL]
    rw [i pa, ← am (one h) (all a pa)]
    rfl
end KP
namespace K06
open PySem PyProof.Rows HD KP
theorem kqx : Str.ofString "qx" = St [113, 120] := by kernel_rfl
theorem kqy : Str.ofString "qy" = St [113, 121] := by kernel_rfl
theorem nmqx : isNm [113, 120] := ⟨by decide, by decide, by decide⟩
theorem nmqy : isNm [113, 121] := ⟨by decide, by decide, by decide⟩
theorem pt_wd : ∀ t : Tm, (pt t).wd = t.wd
  | .nm s => rfl
  | .pair a b => by simp only [pt, Pt.wd, Tm.wd, pt_wd a, pt_wd b]
  | .box a b => by
    simp only [pt, Pt.wd, Tm.wd, pt_wd a, pt_wd b]
    congr 1
    cases a <;> simp only [pt, Pt.key, Tm.key]
  | .half s => rfl
  | .shut s a => by simp only [pt, Pt.wd, Tm.wd, Lf.wd, pt_wd a]
  | .mark s a => by simp only [pt, Pt.wd, Tm.wd, Lf.wd, pt_wd a]
  | .mix a => by simp only [pt, Pt.wd, Tm.wd, pt_wd a]
theorem pt_cl : ∀ t : Tm, (pt t).cl = true
  | .nm s => rfl
  | .pair a b => by simp only [pt, Pt.cl, pt_cl a, pt_cl b, Bool.and_self]
  | .box a b => by simp only [pt, Pt.cl, pt_cl a, pt_cl b, Bool.and_self]
  | .half s => rfl
  | .shut s a => by simp only [pt, Pt.cl, Lf.shut, pt_cl a, Bool.and_self]
  | .mark s a => by simp only [pt, Pt.cl, Lf.shut, pt_cl a, Bool.and_self]
  | .mix a => by simp only [pt, Pt.cl, pt_cl a]
section
variable {Xd : Err → Prop} {Q : D → Prop}
theorem sp_worded {t : Tm} (h : t.ok) (hd : t.depth ≤ 12) (hs : t.size ≤ 40) (q : Q (.str (St t.wd))) : m_worded [t.d] Xd Q := by
  rw [← pt_d]
  exact po_worded (ok_pt t h) (by rw [pt_depth]; exact hd) (by rw [pt_size]; exact hs) (pt_cl t) (by rw [pt_wd]; exact q)
theorem sp_read {t : Tm} (h : t.ok) (hd : t.depth ≤ 12) (hs : t.size ≤ 40) (q : Q t.d) : m_read_term [.str (St t.wd)] Xd Q := by
  rw [← pt_wd]
  exact po_read_term (ok_pt t h) (by rw [pt_depth]; exact hd) (by rw [pt_size]; exact hs) (fun z => by rw [pt_cl] at z; cases z) fun _ => by rw [pt_d]; exact q
end
structure Tr (l : List (List Nat)) (t : Tm) : Prop where
  ov : t.over l
  dep : t.depth ≤ 4
  size : t.size ≤ 8
structure Nl (n0 n1 : List Nat) : Prop where
  h0 : isNm n0
  h1 : isNm n1
  ne : n0 ≠ n1
section
variable {n0 n1 : List Nat}
theorem Nl.nm (h : Nl n0 n1) : ∀ s ∈ [n0, n1], isNm s := fun s hs => by
  simp only [List.mem_cons, List.not_mem_nil, or_false] at hs
  rcases hs with rfl | rfl
  · exact h.h0
  · exact h.h1
theorem Tr.ok {t : Tm} (n : Nl n0 n1) (h : Tr [n0, n1] t) : t.ok := Tm.over_ok n.nm t h.ov
theorem Tr.parts {t : Tm} (h : Tr [n0, n1] t) : ∀ u ∈ t.partsL, Tr [n0, n1] u := fun u hu =>
  ⟨Tm.parts_over t h.ov u hu, (Tm.parts_small t ⟨h.dep, h.size⟩ u hu).1, (Tm.parts_small t ⟨h.dep, h.size⟩ u hu).2⟩
theorem plen {t : Tm} (h : t.depth ≤ 5) : t.partsL.length ≤ 62 := by
  have := Tm.parts_len t 5 h
  omega
def tab (n0 n1 : List Nat) : NDc := [(n0, [113, 120]), (n1, [113, 121])]
def back (n0 n1 : List Nat) : NDc := [([113, 120], n0), ([113, 121], n1)]
theorem tab_ok (h : Nl n0 n1) : NdOk (tab n0 n1) := ⟨fun p hp => by
  simp only [tab, List.mem_cons, List.not_mem_nil, or_false] at hp
  rcases hp with rfl | rfl
  · exact h.h0
  · exact h.h1, fun p hp => by
  simp only [tab, List.mem_cons, List.not_mem_nil, or_false] at hp
  rcases hp with rfl | rfl
  · exact nmqx
  · exact nmqy, by
  show ([n0, n1] : List (List Nat)).Nodup
  simp [h.ne]⟩
theorem tab_fold (h : Nl n0 n1) : foldP [.str (St n0), .str (St [113, 120]), .str (St n1), .str (St [113, 121])] [] = ndK (tab n0 n1) := by
  have e1 : (n1 == n0) = false := beq_eq_false_iff_ne.mpr (Ne.symm h.ne)
  simp only [foldP]
  rw [show ([] : List (D × D)) = ndK [] from rfl, set_ndP, set_ndP]
  congr 1
  simp [ndPut, tab, List.lookup_cons, e1]
abbrev rp (n0 n1 : List Nat) : Tm → Tm := rpl fun s => (tab n0 n1).lookup s
theorem nf_back (h : Nl n0 n1) {s : List Nat} (hs : s ∈ [n0, n1]) : nf (fun s => (back n0 n1).lookup s) (nf (fun s => (tab n0 n1).lookup s) s) = s := by
  have e1 : (n1 == n0) = false := beq_eq_false_iff_ne.mpr (Ne.symm h.ne)
  simp only [List.mem_cons, List.not_mem_nil, or_false] at hs
  rcases hs with rfl | rfl
  · simp [nf, tab, back, List.lookup_cons]
  · simp [nf, tab, back, List.lookup_cons, e1]
theorem rp_inj (h : Nl n0 n1) (x y : Tm) (hx : x.over [n0, n1]) (hy : y.over [n0, n1]) (e : rp n0 n1 x = rp n0 n1 y) : x = y := by
  rw [← rpl_back (f := fun s => (tab n0 n1).lookup s) (g := fun s => (back n0 n1).lookup s) x fun s hs => nf_back h (nms_over x hx s hs), ← rpl_back (f := fun s => (tab n0 n1).lookup s) (g := fun s => (back n0 n1).lookup s) y fun s hs => nf_back h (nms_over y hy s hs)]
  show rpl _ (rp n0 n1 x) = rpl _ (rp n0 n1 y)
  rw [e]
theorem rp_parts (h : Nl n0 n1) {t : Tm} (ht : t.over [n0, n1]) : (rp n0 n1 t).partsL = t.partsL.map (rp n0 n1) :=
  parts_rpl (P := fun t => t.over [n0, n1]) (fun _ _ h => h) (fun _ _ h => h) (fun _ h => h) (fun _ _ h => h) (fun _ _ h => h) (fun _ h => h) (rp_inj h) t ht
theorem rp_ok (h : Nl n0 n1) {t : Tm} (ht : t.ok) : (rp n0 n1 t).ok := rpl_ok (fun s v e => (tab_ok h).val e) t ht
theorem plx_terms {L : List Tm} {n : Nat} (hL : ∀ t ∈ L, t.depth ≤ 12) (hn : 15 ≤ n) (hl : L.length ≤ 1000) : PlX n (.lst (L.map Tm.d)) := by
  obtain ⟨n, rfl⟩ := Nat.exists_eq_succ_of_ne_zero (show n ≠ 0 by omega)
  refine ⟨by simp; omega, fun x hx => ?_⟩
  obtain ⟨t, ht, rfl⟩ := List.mem_map.mp hx
  exact plx_tm (hL t ht) n (by omega)
theorem rest8 (h : Nl n0 n1) {ts : List Tm} (ht : ∀ t ∈ ts, Tr [n0, n1] t) {a b : Tm} {r : List Tm} (e : ts = a :: b :: r) {x4 x5 x6 x7 x8 x9 x10 x11 x12 x13 x14 x15 : Option Sl} (h6 : nown (some x6) = true) : m_law8 De0 [none, some (.val .bag), some (.val (.lst (nmD [n0, n1]))), some (.val (.lst (ts.map Tm.d))), x4, x5, x6, x7, x8, x9, x10, x11, x12, x13, x14, x15] := by
  subst e
  have ha := ht a (by simp)
  have hb := ht b (by simp)
  have ao := ha.ok h
  have bo := hb.ok h
  have d1 := ha.dep
  have d2 := hb.dep
  have s1 := ha.size
  have s2 := hb.size
  have wo : (Tm.pair a b).ok := ⟨ao, bo⟩
  have wd : (Tm.pair a b).depth ≤ 5 := by simp only [Tm.depth]; omega
  have ws : (Tm.pair a b).size ≤ 16 := by simp only [Tm.size]; omega
  have wp := plen wd
  have ap := plen (t := a) (by omega)
  have bp := plen (t := b) (by omega)
  have big : (1000 : Nat) ≤ sizeLine := by decide
  simp_arith [m_law8, m_law9, m_law10, m_law11]
  show m_names_of [(Tm.pair a b).d] _ _
  refine sp_names_of wo (by omega) (by omega) ?_
  refine sp_names_of ao (by omega) (by omega) ?_
  refine sp_names_of bo (by omega) (by omega) ?_
  obtain ⟨sa, ea, na, ma⟩ := uni_names (nms a)
  obtain ⟨sb, eb, nb, mb⟩ := uni_names (nms b)
  obtain ⟨sw, ew, nw, mw⟩ := uni_names (nms (.pair a b))
  have la := few _ _ na fun s hs => (ma s).mp hs
  have lb := few _ _ nb fun s hs => (mb s).mp hs
  have lw := few _ _ nw fun s hs => (mw s).mp hs
  have l1 := nms_len a
  have l2 := nms_len b
  have l3 := nms_len (.pair a b)
  rw [ea, eb]
  simp_arith [true_and]
  refine ⟨by simp [nmD]; omega, (sa ++ sb).map St, by simp; omega, .inl (by simp [nmD, Function.comp_def]), ?_⟩
  have same : sortS (uniS ((sa ++ sb).map St)) = sortS (uniS ((nms (.pair a b)).map St)) := by
    refine sort_uni (uniS_nodup _) fun k => uniS_mem.trans ?_
    simp only [List.mem_map, List.mem_append]
    constructor
    · rintro ⟨s, hs, rfl⟩
      exact ⟨s, List.mem_append.mpr (hs.imp (ma s).mp (mb s).mp), rfl⟩
    · rintro ⟨s, hs, rfl⟩
      exact ⟨s, (List.mem_append.mp hs).imp (ma s).mpr (mb s).mpr, rfl⟩
  rw [same, ew]
  refine sp_same_self 16 _ _ _ ⟨by simp [nmD]; omega, fun x hx => ?_⟩ ?_
  · obtain ⟨s, hs, rfl⟩ := List.mem_map.mp hx
    trivial
  simp_arith [m_law12]
  refine sp_size_of ao (by omega) (by omega) ?_
  refine sp_size_of bo (by omega) (by omega) ?_
  simp_arith [true_and]
  refine sp_depth_of ao (by omega) (by omega) ?_
  refine sp_depth_of bo (by omega) (by omega) ?_
  refine .inr ⟨_, _, rfl, ?_⟩
  have em : (if b.depth > a.depth then b.depth else a.depth) = max a.depth b.depth := by omega
  rw [em]
  simp_arith [m_law13]
  show m_size_of [(Tm.pair a b).d] _ _
  refine sp_size_of wo (by omega) (by omega) ?_
  refine sp_depth_of wo (by omega) (by omega) ?_
  simp_arith [true_and]
  have px : PlX 16 (.lst [.int (a.size + b.size), .int (1 + max a.depth b.depth)]) := ⟨by simp, fun x hx => by
    simp only [List.mem_cons, List.not_mem_nil, or_false] at hx
    rcases hx with rfl | rfl <;> trivial⟩
  refine sp_same_self 16 _ _ _ px ?_
  simp_arith [m_law14, h6]
  refine sp_parts_of bo (by omega) (by omega) ?_
  simp_arith [true_and]
  refine lc_filtT Tm.d Tm.d (fun u => !decide (u ∈ a.partsL)) b.partsL [] (fun u hu S N hS => ?_) (by simp; omega) ?_
  · have ud := (Tr.parts hb u hu).dep
    simp_arith [true_and]
    refine sp_parts_of ao (by omega) (by omega) ?_
    simp_arith [any_in]
    refine ⟨.inr (deep_in (by omega) fun v hv => by have := (Tr.parts ha v hv).dep; omega), ?_⟩
    exact hS
  simp_arith [m_law15]
  show m_parts_of [(Tm.pair a b).d] _ _
  refine sp_parts_of wo (by omega) (by omega) ?_
  refine sp_parts_of ao (by omega) (by omega) ?_
  have fl := List.length_filter_le (fun u => !decide (u ∈ a.partsL)) b.partsL
  simp_arith [true_and]
  refine ⟨by simp; omega, by simp; omega, ?_⟩
  have na' : Tm.pair a b ∉ a.partsL := fun z => by
    have := (Tm.parts_small (n := a.depth) (m := a.size) a ⟨by omega, by omega⟩ _ z).1
    simp only [Tm.depth] at this
    omega
  have nb' : Tm.pair a b ∉ b.partsL := fun z => by
    have := (Tm.parts_small (n := b.depth) (m := b.size) b ⟨by omega, by omega⟩ _ z).1
    simp only [Tm.depth] at this
    omega
  have eq : (Tm.pair a b).partsL = (Tm.pair a b :: a.partsL) ++ b.partsL.filter fun u => !decide (u ∈ a.partsL) := by
    simp only [Tm.partsL]
    have e1 : addP [Tm.pair a b] a.partsL = Tm.pair a b :: a.partsL := by
      unfold addP
      rw [List.filter_eq_self.mpr fun u hu => ?_]
      · rfl
      · have : u ≠ Tm.pair a b := fun z => na' (z ▸ hu)
        simp [this]
    rw [e1]
    unfold addP
    congr 1
    refine List.filter_congr fun u hu => ?_
    have : u ≠ Tm.pair a b := fun z => nb' (z ▸ hu)
    simp [this]
  have eq2 : (Tm.pair a b).d :: (a.partsL.map Tm.d ++ (b.partsL.filter fun u => !decide (u ∈ a.partsL)).map Tm.d) = (Tm.pair a b).partsL.map Tm.d := by rw [eq]; simp
  show m_law_same 16 [_, .lst ((Tm.pair a b).d :: (a.partsL.map Tm.d ++ _))] _ _
  rw [eq2]
  exact sp_same_self 16 _ _ _ (plx_terms (fun t ht2 => by have := (Tm.parts_small (n := 5) (m := 16) _ ⟨wd, ws⟩ t ht2).1; omega) (by omega) (by omega)) rfl
theorem rest6 (h : Nl n0 n1) {ts : List Tm} (ht : ∀ t ∈ ts, Tr [n0, n1] t) (h2 : 2 ≤ ts.length) {x4 x5 x6 x7 x8 x9 x10 x11 x12 x13 x14 x15 : Option Sl} (h6 : nown (some x6) = true) : m_law6 De0 [none, some (.val .bag), some (.val (.lst (nmD [n0, n1]))), some (.val (.lst (ts.map Tm.d))), x4, x5, x6, x7, x8, x9, x10, x11, x12, x13, x14, x15] := by
  have names2 : nmD [n0, n1] = [.str (St n0), .str (St n1)] := rfl
  have tok := tab_ok h
  have tl : (tab n0 n1).length ≤ 1000 := by simp [tab]
  obtain ⟨a, b, r, e⟩ : ∃ a b r, ts = a :: b :: r := by
    match ts, h2 with
    | a :: b :: r, _ => exact ⟨a, b, r, rfl⟩
  simp_arith [m_law6, kqx, kqy, names2]
  refine ⟨⟨KP.ky h.h0, KP.ky h.h1, trivial⟩, ?_⟩
  rw [tab_fold h, ← names2]
  simp_arith [m_law7]
  refine for_inv (fun _ ρ => ∃ x5 x6 x9 x10, ρ = [none, some (.val .bag), some (.val (.lst (nmD [n0, n1]))), some (.val (.lst (ts.map Tm.d))), x4, x5, x6, x7, some (.val (.dct (ndK (tab n0 n1)))), x9, x10, x11, x12, x13, x14, x15] ∧ nown (some x6) = true) _ 0 _ ⟨_, _, _, _, rfl, h6⟩ ?_ ?_
  · rintro i d hi ρ ⟨x5, x6, x9, x10, rfl, h6⟩ N hN
    obtain ⟨t, tm, rfl⟩ := List.mem_map.mp (List.mem_of_getElem? hi)
    have tr := ht t tm
    have to := tr.ok h
    have d1 := tr.dep
    have s1 := tr.size
    have ro := rp_ok h to
    have rd : (rp n0 n1 t).depth ≤ 4 := by rw [rpl_depth]; exact d1
    have rs : (rp n0 n1 t).size ≤ 8 := by rw [rpl_size]; exact s1
    have pl := plen (t := t) (by omega)
    have rpl' := plen (t := rp n0 n1 t) (by omega)
    have big : (1000 : Nat) ≤ sizeLine := by decide
    simp_arith [m_law7b0]
    refine sp_renamed to (by omega) (by omega) tok tl ?_
    simp_arith [m_law7b1]
    refine sp_worded (t := rp n0 n1 t) ro (by omega) (by omega) ?_
    refine sp_read (t := rp n0 n1 t) ro (by omega) (by omega) ?_
    refine sp_same_self 16 _ _ _ (plx_tm (t := rp n0 n1 t) (by omega) 16 (by decide)) ?_
    simp_arith [m_law7b2, h6]
    refine sp_parts_of (t := rp n0 n1 t) ro (by omega) (by omega) ?_
    refine sp_parts_of to (by omega) (by omega) ?_
    simp_arith [true_and]
    refine lc_filtT Tm.d (fun u => (rp n0 n1 u).d) (fun _ => true) t.partsL [] (fun u hu S N hS => ?_) (by simp; omega) ?_
    · have ut := tr.parts u hu
      have ud := ut.dep
      have us := ut.size
      simp_arith [true_and]
      refine sp_renamed (ut.ok h) (by omega) (by omega) tok tl ?_
      simpa using hS
    rw [List.nil_append, List.filter_eq_self.mpr (by simp)]
    have em : t.partsL.map (fun u => (rp n0 n1 u).d) = (rp n0 n1 t).partsL.map Tm.d := by
      rw [rp_parts h tr.ov, List.map_map]
      rfl
    rw [em]
    refine sp_same_self 16 _ _ _ (plx_terms (fun u hu => ?_) (by omega) (by omega)) ?_
    · have := (Tm.parts_small (n := 4) (m := 8) _ ⟨rd, rs⟩ u hu).1
      omega
    simp_arith [m_law7b3, h6]
    refine sp_parts_of to (by omega) (by omega) ?_
    simp_arith [true_and]
    refine lc_filtT Tm.d (fun u => (rp n0 n1 u).d) (fun _ => true) t.partsL [] (fun u hu S N hS => ?_) (by simp; omega) ?_
    · have ut := tr.parts u hu
      have ud := ut.dep
      have us := ut.size
      simp_arith [true_and]
      refine sp_worded (ut.ok h) (by omega) (by omega) ?_
      refine sp_read (ut.ok h) (by omega) (by omega) ?_
      refine sp_renamed (ut.ok h) (by omega) (by omega) tok tl ?_
      simpa using hS
    rw [List.nil_append, List.filter_eq_self.mpr (by simp), em]
    have wl : ∀ (ρ : Rho) (R : List D → Prop), ρ.length = 16 → R ((rp n0 n1 t).partsL.map fun u => D.str (St u.wd)) → lcD (tName 6) dYes (dCall m_worded (dCons (dVar 6) dNil)) ((rp n0 n1 t).partsL.map Tm.d) [] ρ R := fun ρ R hρ q => by
      refine lc_filtT Tm.d (fun u => D.str (St u.wd)) (fun _ => true) _ [] (fun u hu S N hS => ?_) (by simp; omega) (by simpa [List.filter_eq_self.mpr] using q)
      have ur := Tm.parts_small (n := 4) (m := 8) _ ⟨rd, rs⟩ u hu
      have uo := parts_ok _ ro u hu
      have g6 : (ρ.set 6 (some (.val u.d)))[6]? = some (some (.val u.d)) := List.getElem?_set_self (by omega)
      simp only [e_name, e_yes, if_true, e_call, e_cons, e_nil]
      rw [e_var g6]
      refine sp_worded uo (by omega) (by omega) ?_
      simpa using hS
    simp_arith [m_law7b4, h6]
    refine sp_parts_of (t := rp n0 n1 t) ro (by omega) (by omega) ?_
    simp_arith [true_and]
    refine wl _ _ rfl ?_
    refine wl _ _ rfl ?_
    have so := strs_ok ((rp n0 n1 t).partsL.map fun u => St u.wd) fun z hz => by
      obtain ⟨u, hu, rfl⟩ := List.mem_map.mp hz
      have ur := Tm.parts_small (n := 4) (m := 8) _ ⟨rd, rs⟩ u hu
      exact (Tm.okw (parts_ok _ ro u hu) (by omega)).2
    have eqm : ((rp n0 n1 t).partsL.map fun u => D.str (St u.wd)) = ((rp n0 n1 t).partsL.map fun u => St u.wd).map D.str := by rw [List.map_map]; rfl
    rw [eqm]
    simp_arith [true_and]
    refine ⟨by simpa only [okD] using so.1, by simpa only [okD] using so.1, ?_, ?_⟩
    · simp only [depD, toP, PyData.depth, so.2.2]
      omega
    rw [eqd_self (by simpa only [toP, PyData.canLay0] using so.2.1)]
    simp_arith [true_and]
    exact hN _ ⟨_, _, _, _, rfl, h6⟩
  · rintro ρ ⟨x5, x6, x9, x10, rfl, h6⟩
    exact rest8 h ht e h6
theorem rest2 (h : Nl n0 n1) {ts : List Tm} (ht : ∀ t ∈ ts, Tr [n0, n1] t) (h2 : 2 ≤ ts.length) (h4 : ts.length ≤ 4) {x4 x5 x7 x8 x9 x10 x11 x12 x13 x14 x15 : Option Sl} : m_law2 De0 [none, some (.val .bag), some (.val (.lst (nmD [n0, n1]))), some (.val (.lst (ts.map Tm.d))), x4, x5, none, x7, x8, x9, x10, x11, x12, x13, x14, x15] := by
  have big : (1000 : Nat) ≤ sizeLine := by decide
  simp_arith [m_law2, m_law3]
  refine for_inv (fun k ρ => ∃ (E : List Tm) (x5 x6 : Option Sl), ρ = [none, some (.val .bag), some (.val (.lst (nmD [n0, n1]))), some (.val (.lst (ts.map Tm.d))), some (.val (.lst (E.map Tm.d))), x5, x6, x7, x8, x9, x10, x11, x12, x13, x14, x15] ∧ nown (some x6) = true ∧ E.Nodup ∧ (∀ u ∈ E, Tr [n0, n1] u) ∧ E.length ≤ 62 * k) _ 0 _ ⟨[], _, _, rfl, rfl, by simp, by simp, by simp⟩ ?_ ?_
  · rintro i d hi ρ ⟨E, x5, x6, rfl, h6, nd, tr, el⟩ N hN
    rw [Nat.zero_add] at hN el
    obtain ⟨t, tm, rfl⟩ := List.mem_map.mp (List.mem_of_getElem? hi)
    have il : i < 4 := by
      have := (List.getElem?_eq_some_iff.mp hi).1
      simp at this
      omega
    have tt := ht t tm
    have to := tt.ok h
    have d1 := tt.dep
    have s1 := tt.size
    have pl := plen (t := t) (by omega)
    simp_arith [m_law3b0, h6]
    refine sp_parts_of to (by omega) (by omega) ?_
    simp_arith [true_and]
    refine lc_filtT Tm.d Tm.d (fun u => !decide (u ∈ E)) t.partsL [] (fun u hu S N hS => ?_) (by simp; omega) ?_
    · have ud := (tt.parts u hu).dep
      simp_arith [any_in]
      refine ⟨.inr (deep_in (by omega) fun v hv => by have := (tr v hv).dep; omega), ?_⟩
      exact hS
    have fl := List.length_filter_le (fun u => !decide (u ∈ E)) t.partsL
    simp_arith [true_and]
    refine ⟨by simp; omega, ?_⟩
    rw [map_addP]
    have nd2 : (addP E t.partsL).Nodup := by
      unfold addP
      refine List.nodup_append.mpr ⟨nd, (parts_nd t).filter _, fun a ha b hb e => ?_⟩
      have := (List.mem_filter.mp hb).2
      rw [← e] at this
      simp [ha] at this
    have tr2 : ∀ u ∈ addP E t.partsL, Tr [n0, n1] u := fun u hu => (mem_addP.mp hu).elim (tr u) (tt.parts u)
    have l2 : (addP E t.partsL).length ≤ 62 * (i + 1) := by
      have := len_addP (row := E) (ps := t.partsL)
      omega
    simp_arith [m_law3b1]
    refine sp_parts_of to (by omega) (by omega) ?_
    simp_arith [true_and]
    refine for_inv (fun _ ρ => ∃ (x6 : Option Sl), ρ = [none, some (.val .bag), some (.val (.lst (nmD [n0, n1]))), some (.val (.lst (ts.map Tm.d))), some (.val (.lst ((addP E t.partsL).map Tm.d))), some (.val t.d), x6, x7, x8, x9, x10, x11, x12, x13, x14, x15] ∧ nown (some x6) = true) _ 0 _ ⟨_, rfl, h6⟩ ?_ ?_
    · rintro j d hj ρ ⟨x6, rfl, h6⟩ N2 hN2
      obtain ⟨u, um, rfl⟩ := List.mem_map.mp (List.mem_of_getElem? hj)
      have ut := tt.parts u um
      have ud := ut.dep
      have us := ut.size
      simp_arith [rInT]
      refine sp_worded (ut.ok h) (by omega) (by omega) ?_
      refine sp_worded to (by omega) (by omega) ?_
      refine ⟨_, _, rfl, rfl, ?_⟩
      rw [has_infix (part_infix t u um)]
      simp_arith [true_and]
      exact hN2 _ ⟨_, rfl, rfl⟩
    · rintro ρ ⟨x6, rfl, h6⟩
      exact hN _ ⟨_, _, _, rfl, h6, nd2, tr2, l2⟩
  · rintro ρ ⟨E, x5, x6, rfl, h6, nd, tr, el⟩
    have el' : E.length ≤ 248 := by
      simp at el
      omega
    simp_arith [m_law4, h6]
    refine lc_filtT Tm.d (fun u => D.str (St u.wd)) (fun _ => true) E [] (fun u hu S N hS => ?_) (by simp; omega) ?_
    · have ut := tr u hu
      have ud := ut.dep
      have us := ut.size
      simp_arith [true_and]
      refine sp_worded (ut.ok h) (by omega) (by omega) ?_
      simpa using hS
    rw [List.nil_append, List.filter_eq_self.mpr (by simp)]
    simp_arith [m_law5]
    refine ⟨E.map fun u => St u.wd, by simp; omega, .inl (by simp [Function.comp_def]), ?_⟩
    have wn : (E.map fun u => St u.wd).Nodup := by
      unfold List.Nodup at nd ⊢
      rw [List.pairwise_map]
      refine List.Pairwise.imp_of_mem (fun {a b} ha hb n e => n ?_) nd
      exact Tm.wd_inj ((tr a ha).ok h) ((tr b hb).ok h) (St_inj.mp e)
    rw [← len_uni wn fun k => Iff.rfl]
    have le : ((E.map fun u => St u.wd).length : Int) = ((E.map Tm.d).length : Int) := by simp
    rw [le]
    simp_arith [true_and]
    exact rest6 h ht h2 h6
end
theorem law_ok : LawOk := by
  refine law_of ?_
  simp_arith [m_law0]
  refine sp_names (m := 2) (by decide) fun l hL nd hl2 => ?_
  obtain ⟨n0, n1, rfl⟩ : ∃ n0 n1, l = [n0, n1] := by
    match l, hl2 with
    | [n0, n1], _ => exact ⟨n0, n1, rfl⟩
  have h : Nl n0 n1 := ⟨(hL n0 (by simp)).1, (hL n1 (by simp)).1, by simpa using nd⟩
  have hn : Nms [n0, n1] := ⟨h.nm, by simp, by simp⟩
  simp_arith [m_law1]
  rw [e_draw (by decide) (by decide)]
  intro r r0 r1
  obtain ⟨r, rfl⟩ := Int.eq_ofNat_of_zero_le r0
  refine ⟨2 + (r : Int), rfl, by omega, by omega, ?_⟩
  have il : (intsD 0 (2 + (r : Int)).toNat).length = 2 + r := by
    simp [intsD]
    omega
  refine lc_drawn (P := Tr [n0, n1]) _ [] (by simp) (fun d hd S N hS => ?_) ?_ fun ts ht hl => ?_
  · simp_arith [true_and]
    exact HD.sp_term hn 3 4 (by decide) (by decide) fun t to td ts => hS t ⟨to, by omega, by omega⟩
  · simp [il]
    have : (1000 : Nat) ≤ sizeLine := by decide
    omega
  · simp [il] at hl
    exact rest2 h ht (by omega) (by omega)
end K06
end
open PySem PySem.W PySem.Calls PyProof.Rows
theorem PySem.Challenge.cw_sealedtalk_k06_whole_terms_and_wordings_holds : PySem.Challenge.rw_sealedtalk_k06_whole_terms_and_wordings.Holds := by
  w_on; o_law
  refine HandSHeadRun.head_any (r := OpenLaw.row PySem.Challenge.rw_sealedtalk_k06_whole_terms_and_wordings) (q := view (OpenLaw.row PySem.Challenge.rw_sealedtalk_k06_whole_terms_and_wordings).prog [58]) (H := K06.hk) (ob := K06.ob) (M := 4000) (loose := K06.names) (d := HandSHeadRun.topDef (OpenLaw.row PySem.Challenge.rw_sealedtalk_k06_whole_terms_and_wordings).prog 58) (kwd := []) K06.ob_eq
    (by kernel_rfl) (fun s => by kernel_rfl) K06.run (by kernel_rfl) (by kernel_rfl) (by kernel_rfl) (by rfl) (by first | assumption | decide +kernel) (by decide +kernel) ⟨rfl, rfl, rfl, rfl, rfl, by decide +kernel⟩ ?hw ?hc
  case hw => w_witness2
  case hc =>
    refine L2.walk_ofE (l := PySem.Challenge.rw_sealedtalk_k06_whole_terms_and_wordings) (n := 63) (k := 31 + 1) (x := "_law_script") (CX := L2.CX0) rfl (by decide) (by kernel_rfl) ⟨rfl, by decide, by decide⟩ ?F (fun _ _ _ _ z => z)
    intro w mg fa h Y G hmg0
    obtain ⟨K, KX, c⟩ := Y
    have T := K06.top_of KX G c
    have e0 : (HandSHeadRun.topDef (OpenLaw.row PySem.Challenge.rw_sealedtalk_k06_whole_terms_and_wordings).prog 58).name = ("law" : PySem.Str) := by kernel_rfl
    rw [e0, T.g_law] at hmg0
    cases hmg0
    obtain ⟨fd, F⟩ := T.d_law
    exact ⟨K, fd, K06.spLaw K, KX, (K06.ok_law (P := (PySem.Challenge.rw_sealedtalk_k06_whole_terms_and_wordings).prog) (base := h) T K06.law_ok F).2, fun H a ns hl _ hS => ⟨a, ns, rfl, hS, fun _ => rfl⟩, fun base _ _ => (K06.ok_law (P := (PySem.Challenge.rw_sealedtalk_k06_whole_terms_and_wordings).prog) (base := base) T K06.law_ok F).1⟩
