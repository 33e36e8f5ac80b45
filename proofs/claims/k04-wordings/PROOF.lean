import PyProof.Rows.All
import Wide.All
import OpenK.AllK
import Wide.FinOn
import HandS.ForMost
import HandS.ForExc
import HandS.TryMany
import HandS.IsInst
import HandS.Flow
import HandS.Deep
import HandS.TupAny
import HandS.More
import HandS.CallSlots
import HandS.Wide
import HandS.Defaults
import HandS.StrMore
import HandS.Words
import HandS.WordsExc
import HandS.Head0
import HandS.Head1
import HandS.Head2
import HandS.HeadEnd
import HandS.HeadHook1
import HandS.HeadHook2
import HandS.HeadHook3
import HandS.Evl
import PySem.Challenge.RW_sealedtalk_k04_wordings
set_option Elab.async false
set_option linter.all false
set_option maxRecDepth 100000
set_option maxHeartbeats 0
/-! HD: Python data as trees (D), what of them the abstract heap bears (Is), and what a body's slots bear (EnvOk). -/
namespace HD
open PySem L2
/-- Python data; bag is the law's own source of draws -/
inductive D where
  | non
  | bl (b : Bool)
  | int (i : Int)
  | str (s : Str)
  | ty (n : String)
  | tup (xs : List D)
  | lst (xs : List D)
  | dct (kvs : List (D × D))
  | bag
/-- a text as Python's own: no longer than the line, of code points -/
def okS (s : Str) : Prop := s.length ≤ sizeLine ∧ PySem.PyData.strOk s = true
/-- where the bag and its list of cells stand -/
structure Bg where
  b : Addr
  l : Addr
def BagAt (B : Bg) (H : Hp) : Prop := B.l ≠ B.b ∧ ∃ (ns : List Int) (i r k sd : Int), H B.b = some (.lst [.ref B.l, .int i, .int r, .int k, .int sd]) ∧ H B.l = some (.lst (ns.map V.int)) ∧ 0 ≤ i ∧ 0 ≤ r ∧ 0 ≤ k ∧ 0 ≤ sd ∧ sd < 2147483629
mutual
/-- the value v is the datum d in H; lists and dicts of it stand outside O -/
inductive Is (B : Bg) (O : Addr → Prop) (K : PySem.W.Frag) (H : Hp) : V → D → Prop
  | non : Is B O K H .non .non
  | bl (c : Bool) : Is B O K H (.bl c) (.bl c)
  | int (i : Int) : Is B O K H (.int i) (.int i)
  | str (s : Str) (h : okS s) : Is B O K H (.str s) (.str s)
  | ty (n : String) : Is B O K H (.ty n) (.ty n)
  | tup {a : Addr} {xs : List V} {ds : List D} (h : SqT K H a xs) (r : IsL B O K H xs ds) : Is B O K H (.ref a) (.tup ds)
  | lst {a : Addr} {xs : List V} {ds : List D} (h : H a = some (.lst xs)) (n : ¬ O a) (r : IsL B O K H xs ds) : Is B O K H (.ref a) (.lst ds)
  | dct {a : Addr} {kvs : List (Key × V)} {ks vs : List D} (h : H a = some (.dK kvs)) (n : ¬ O a) (r1 : IsL B O K H (kvs.map fun p => kV p.1) ks) (r2 : IsL B O K H (kvs.map fun p => p.2) vs) : Is B O K H (.ref a) (.dct (ks.zip vs))
  | bag (h : BagAt B H) (o : O B.b) : Is B O K H (.ref B.b) .bag
inductive IsL (B : Bg) (O : Addr → Prop) (K : PySem.W.Frag) (H : Hp) : List V → List D → Prop
  | nil : IsL B O K H [] []
  | cons {v : V} {d : D} {vs : List V} {ds : List D} (h : Is B O K H v d) (r : IsL B O K H vs ds) : IsL B O K H (v :: vs) (d :: ds)
end
/-- all stands as it stood but for the bag's state -/
structure Ex (B : Bg) (H H' : Hp) : Prop where
  keep : ∀ a o, H a = some o → H' a = some o ∨ (a = B.b ∧ ∃ xs, o = .lst xs)
  there : ∀ a o, H a = some o → ∃ o', H' a = some o'
  bag : BagAt B H → BagAt B H'
section
variable {B : Bg} {O O' : Addr → Prop} {K : PySem.W.Frag} {H H1 H2 H' : Hp} {v : V} {d : D} {vs : List V} {ds : List D}
theorem Ex.refl (B : Bg) (H : Hp) : Ex B H H := ⟨fun _ _ e => .inl e, fun _ o e => ⟨o, e⟩, fun q => q⟩
theorem Ex.trans (x : Ex B H H1) (y : Ex B H1 H2) : Ex B H H2 := ⟨fun a o e => by
    rcases x.keep a o e with h | h
    · exact y.keep a o h
    · exact .inr h, fun a o e => by
    obtain ⟨o1, e1⟩ := x.there a o e
    exact y.there a o1 e1, fun q => y.bag (x.bag q)⟩
theorem Ex.new {p : Addr} {o : HO} (h : H p = none) : Ex B H (upd H p o) := ⟨fun a u e => .inl (by rw [upd_ne (ne_of_none e h)]; exact e), fun a u e => ⟨u, by rw [upd_ne (ne_of_none e h)]; exact e⟩, fun q => by
    obtain ⟨n, ns, i, r, k, sd, e1, e2, z⟩ := q
    exact ⟨n, ns, i, r, k, sd, by rw [upd_ne (ne_of_none e1 h)]; exact e1, by rw [upd_ne (ne_of_none e2 h)]; exact e2, z⟩⟩
theorem Ex.free {p : Addr} (x : Ex B H H') (h : H' p = none) : H p = none := by
  cases q : H p with
  | none => rfl
  | some o =>
    obtain ⟨o', e⟩ := x.there p o q
    rw [h] at e; cases e
theorem Ex.at {a : Addr} {o : HO} (x : Ex B H H') (e : H a = some o) (n : a ≠ B.b) : H' a = some o := by
  rcases x.keep a o e with h | ⟨h, _⟩
  · exact h
  · exact absurd h n
theorem Ex.tup {a : Addr} {xs : List V} (x : Ex B H H') (h : SqT K H a xs) : SqT K H' a xs := by
  rcases h with (h | ⟨o, h⟩) | h
  · rcases x.keep a _ h with z | ⟨_, ys, z⟩
    · exact .inl (.inl z)
    · cases z
  · rcases x.keep a _ h with z | ⟨_, ys, z⟩
    · exact .inl (.inr ⟨o, z⟩)
    · cases z
  · exact .inr h
mutual
theorem Is.ex (x : Ex B H H') (ob : O B.b) : ∀ {v : V} {d : D}, Is B O K H v d → Is B O K H' v d
  | _, _, .non => .non
  | _, _, .bl c => .bl c
  | _, _, .int i => .int i
  | _, _, .str s h => .str s h
  | _, _, .ty n => .ty n
  | _, _, .tup h r => .tup (x.tup h) (IsL.ex x ob r)
  | _, _, .lst h n r => .lst (x.at h fun z => n (by rw [z]; exact ob)) n (IsL.ex x ob r)
  | _, _, .dct h n r1 r2 => .dct (x.at h fun z => n (by rw [z]; exact ob)) n (IsL.ex x ob r1) (IsL.ex x ob r2)
  | _, _, .bag h o => .bag (x.bag h) o
theorem IsL.ex (x : Ex B H H') (ob : O B.b) : ∀ {vs : List V} {ds : List D}, IsL B O K H vs ds → IsL B O K H' vs ds
  | _, _, .nil => .nil
  | _, _, .cons h r => .cons (Is.ex x ob h) (IsL.ex x ob r)
end
mutual
/-- less is barred -/
theorem Is.sub (s : ∀ a, O' a → O a ∨ H a = none) (ob : O' B.b) : ∀ {v : V} {d : D}, Is B O K H v d → Is B O' K H v d
  | _, _, .non => .non
  | _, _, .bl c => .bl c
  | _, _, .int i => .int i
  | _, _, .str s h => .str s h
  | _, _, .ty n => .ty n
  | _, _, .tup h r => .tup h (IsL.sub s ob r)
  | _, _, .lst h n r => .lst h (fun z => (s _ z).elim n fun q => by rw [q] at h; cases h) (IsL.sub s ob r)
  | _, _, .dct h n r1 r2 => .dct h (fun z => (s _ z).elim n fun q => by rw [q] at h; cases h) (IsL.sub s ob r1) (IsL.sub s ob r2)
  | _, _, .bag h _ => .bag h ob
theorem IsL.sub (s : ∀ a, O' a → O a ∨ H a = none) (ob : O' B.b) : ∀ {vs : List V} {ds : List D}, IsL B O K H vs ds → IsL B O' K H vs ds
  | _, _, .nil => .nil
  | _, _, .cons h r => .cons (Is.sub s ob h) (IsL.sub s ob r)
end
/-- a barred list or dict is changed -/
theorem tup_mut {a p : Addr} {xs : List V} {o u : HO} (e : H p = some u) (hu : (∃ ys, u = .lst ys) ∨ ∃ ks, u = .dK ks) (h : SqT K H a xs) : SqT K (upd H p o) a xs := by
  have ne : ∀ w, H a = some w → (∀ ys, w ≠ .lst ys) → (∀ ks, w ≠ .dK ks) → a ≠ p := fun w q h1 h2 z => by
    subst z
    rw [e] at q; cases q
    rcases hu with ⟨ys, rfl⟩ | ⟨ks, rfl⟩
    · exact h1 _ rfl
    · exact h2 _ rfl
  rcases h with (h | ⟨ob, h⟩) | h
  · exact .inl (.inl (by rw [upd_ne (ne _ h (fun _ z => by cases z) fun _ z => by cases z)]; exact h))
  · exact .inl (.inr ⟨ob, by rw [upd_ne (ne _ h (fun _ z => by cases z) fun _ z => by cases z)]; exact h⟩)
  · exact .inr h
mutual
theorem Is.mut {p : Addr} {o u : HO} (op : O p) (e : H p = some u) (hu : (∃ ys, u = .lst ys) ∨ ∃ ks, u = .dK ks) (nb : p ≠ B.b) (nl : p ≠ B.l) : ∀ {v : V} {d : D}, Is B O K H v d → Is B O K (upd H p o) v d
  | _, _, .non => .non
  | _, _, .bl c => .bl c
  | _, _, .int i => .int i
  | _, _, .str s h => .str s h
  | _, _, .ty n => .ty n
  | _, _, .tup h r => .tup (tup_mut e hu h) (IsL.mut op e hu nb nl r)
  | _, _, .lst h n r => .lst (by rw [upd_ne (fun z => n (by rw [z]; exact op))]; exact h) n (IsL.mut op e hu nb nl r)
  | _, _, .dct h n r1 r2 => .dct (by rw [upd_ne (fun z => n (by rw [z]; exact op))]; exact h) n (IsL.mut op e hu nb nl r1) (IsL.mut op e hu nb nl r2)
  | _, _, .bag h ob => .bag (by
      obtain ⟨n, ns, i, r, k, sd, e1, e2, z⟩ := h
      exact ⟨n, ns, i, r, k, sd, by rw [upd_ne (Ne.symm nb)]; exact e1, by rw [upd_ne (Ne.symm nl)]; exact e2, z⟩) ob
theorem IsL.mut {p : Addr} {o u : HO} (op : O p) (e : H p = some u) (hu : (∃ ys, u = .lst ys) ∨ ∃ ks, u = .dK ks) (nb : p ≠ B.b) (nl : p ≠ B.l) : ∀ {vs : List V} {ds : List D}, IsL B O K H vs ds → IsL B O K (upd H p o) vs ds
  | _, _, .nil => .nil
  | _, _, .cons h r => .cons (Is.mut op e hu nb nl h) (IsL.mut op e hu nb nl r)
end
theorem IsL.length : ∀ {vs : List V} {ds : List D}, IsL B O K H vs ds → vs.length = ds.length
  | _, _, .nil => rfl
  | _, _, .cons _ r => by rw [List.length_cons, List.length_cons, IsL.length r]
theorem IsL.get : ∀ {vs : List V} {ds : List D} {i : Nat} {d : D}, IsL B O K H vs ds → ds[i]? = some d → ∃ v, vs[i]? = some v ∧ Is B O K H v d
  | _, _, i, d, .nil, e => by simp at e
  | _, _, 0, d, .cons h r, e => by
    simp only [List.getElem?_cons_zero, Option.some.injEq] at e
    subst e
    exact ⟨_, rfl, h⟩
  | _, _, i + 1, d, .cons h r, e => by
    obtain ⟨v, h1, h2⟩ := IsL.get (i := i) r (by simpa using e)
    exact ⟨v, by simpa using h1, h2⟩
theorem IsL.getV : ∀ {vs : List V} {ds : List D} {i : Nat} {v : V}, IsL B O K H vs ds → vs[i]? = some v → ∃ d, ds[i]? = some d ∧ Is B O K H v d
  | _, _, i, d, .nil, e => by simp at e
  | _, _, 0, d, .cons h r, e => by
    simp only [List.getElem?_cons_zero, Option.some.injEq] at e
    subst e
    exact ⟨_, rfl, h⟩
  | _, _, i + 1, d, .cons h r, e => by
    obtain ⟨v, h1, h2⟩ := IsL.getV (i := i) r (by simpa using e)
    exact ⟨v, by simpa using h1, h2⟩
theorem IsL.append : ∀ {vs us : List V} {ds es : List D}, IsL B O K H vs ds → IsL B O K H us es → IsL B O K H (vs ++ us) (ds ++ es)
  | _, _, _, _, .nil, s => s
  | _, _, _, _, .cons h r, s => .cons h (IsL.append r s)
theorem IsL.drop : ∀ {vs : List V} {ds : List D} (n : Nat), IsL B O K H vs ds → IsL B O K H (vs.drop n) (ds.drop n)
  | _, _, 0, r => r
  | _, _, _ + 1, .nil => .nil
  | _, _, n + 1, .cons _ r => IsL.drop n r
theorem IsL.take : ∀ {vs : List V} {ds : List D} (n : Nat), IsL B O K H vs ds → IsL B O K H (vs.take n) (ds.take n)
  | _, _, 0, _ => .nil
  | _, _, _ + 1, .nil => .nil
  | _, _, n + 1, .cons h r => .cons h (IsL.take n r)
end
/-! ### slots -/
inductive Sl where
  | val (d : D)
  | own (d : D)
abbrev Rho := List (Option Sl)
/-- what a body runs over: the bag, the barred addresses, the written part, the heap at its entry, further facts that stay -/
structure Fx where
  B : Bg
  O : Addr → Prop
  K : PySem.W.Frag
  H0 : Hp
  G : List (V × D)
/-- a list or dict that this body alone knows -/
def OwnAt (B : Bg) (O : Addr → Prop) (K : PySem.W.Frag) (H : Hp) (a : Addr) (d : D) : Prop :=
  (∃ xs ds, d = .lst ds ∧ H a = some (.lst xs) ∧ IsL B O K H xs ds) ∨
  (∃ kvs ks vs, d = .dct (ks.zip vs) ∧ H a = some (.dK kvs) ∧ IsL B O K H (kvs.map fun p => kV p.1) ks ∧ IsL B O K H (kvs.map fun p => p.2) vs)
def OS (F : Fx) (σ : L2.St) (ρ : Rho) (a : Addr) : Prop := F.O a ∨ ∃ (i : Nat) (d : D), ρ[i]? = some (some (.own d)) ∧ σ[i]? = some (some (.ref a))
structure EnvOk (F : Fx) (H : Hp) (σ : L2.St) (ρ : Rho) : Prop where
  ex : Ex F.B F.H0 H
  len : σ.length = ρ.length
  ob : F.O F.B.b
  ol : F.O F.B.l
  oa : ∀ a, F.O a → H a ≠ none
  val : ∀ (i : Nat) (d : D), ρ[i]? = some (some (.val d)) → ∃ v, σ[i]? = some (some v) ∧ Is F.B (OS F σ ρ) F.K H v d
  own : ∀ (i : Nat) (d : D), ρ[i]? = some (some (.own d)) → ∃ a, σ[i]? = some (some (.ref a)) ∧ OwnAt F.B (OS F σ ρ) F.K H a d ∧ F.H0 a = none ∧ ¬ F.O a
  uniq : ∀ (i j : Nat) (d e : D) (a : Addr), ρ[i]? = some (some (.own d)) → ρ[j]? = some (some (.own e)) → σ[i]? = some (some (.ref a)) → σ[j]? = some (some (.ref a)) → i = j
  gh : ∀ p ∈ F.G, Is F.B (OS F σ ρ) F.K H p.1 p.2
section
variable {F : Fx} {H H' : Hp} {σ : L2.St} {ρ : Rho} {B : Bg} {O O' : Addr → Prop} {K : PySem.W.Frag}
theorem OwnAt.ex {a : Addr} {d : D} (x : Ex B H H') (ob : O B.b) (n : a ≠ B.b) (h : OwnAt B O K H a d) : OwnAt B O K H' a d := by
  rcases h with ⟨xs, ds, e, h1, h2⟩ | ⟨kvs, ks, vs, e, h1, h2, h3⟩
  · exact .inl ⟨xs, ds, e, x.at h1 n, h2.ex x ob⟩
  · exact .inr ⟨kvs, ks, vs, e, x.at h1 n, h2.ex x ob, h3.ex x ob⟩
theorem OwnAt.sub {a : Addr} {d : D} (s : ∀ a, O' a → O a ∨ H a = none) (ob : O' B.b) (h : OwnAt B O K H a d) : OwnAt B O' K H a d := by
  rcases h with ⟨xs, ds, e, h1, h2⟩ | ⟨kvs, ks, vs, e, h1, h2, h3⟩
  · exact .inl ⟨xs, ds, e, h1, h2.sub s ob⟩
  · exact .inr ⟨kvs, ks, vs, e, h1, h2.sub s ob, h3.sub s ob⟩
theorem OwnAt.there {a : Addr} {d : D} (h : OwnAt B O K H a d) : H a ≠ none := by
  rcases h with ⟨xs, ds, e, h1, h2⟩ | ⟨kvs, ks, vs, e, h1, h2, h3⟩ <;> (rw [h1]; simp)
theorem OwnAt.is {a : Addr} {d : D} (h : OwnAt B O K H a d) (s : ∀ c, O' c → O c) (ob : O' B.b) (n : ¬ O' a) : Is B O' K H (.ref a) d := by
  rcases h with ⟨xs, ds, rfl, h1, h2⟩ | ⟨kvs, ks, vs, rfl, h1, h2, h3⟩
  · exact .lst h1 n (h2.sub (fun c z => .inl (s c z)) ob)
  · exact .dct h1 n (h2.sub (fun c z => .inl (s c z)) ob) (h3.sub (fun c z => .inl (s c z)) ob)
theorem EnvOk.osb (e : EnvOk F H σ ρ) : OS F σ ρ F.B.b := .inl e.ob
theorem EnvOk.oall (e : EnvOk F H σ ρ) : ∀ a, OS F σ ρ a → H a ≠ none := fun a h => by
  rcases h with h | ⟨i, d, h1, h2⟩
  · exact e.oa a h
  · obtain ⟨a', h3, h4, _⟩ := e.own i d h1
    rw [h2] at h3
    cases h3
    exact h4.there
/-- the same slots, a heap that has grown -/
theorem EnvOk.ex' (e : EnvOk F H σ ρ) (x : Ex F.B H H') : EnvOk F H' σ ρ where
  ex := e.ex.trans x
  len := e.len
  ob := e.ob
  ol := e.ol
  oa := fun a h => by
    have z := e.oa a h
    cases q : H a with
    | none => exact absurd q z
    | some o =>
      obtain ⟨o', e'⟩ := x.there a o q
      rw [e']; simp
  val := fun i d h => by
    obtain ⟨v, h1, h2⟩ := e.val i d h
    exact ⟨v, h1, h2.ex x e.osb⟩
  own := fun i d h => by
    obtain ⟨a, h1, h2, h3, h4⟩ := e.own i d h
    exact ⟨a, h1, h2.ex x e.osb (fun z => h4 (by rw [z]; exact e.ob)), h3, h4⟩
  uniq := e.uniq
  gh := fun p hp => (e.gh p hp).ex x e.osb
theorem os_val {i : Nat} {w : Option V} {d : Option Sl} (hd : ∀ z, d ≠ some (.own z)) {a : Addr} (h : OS F (σ.set i w) (ρ.set i d) a) : OS F σ ρ a := by
  rcases h with h | ⟨j, z, h1, h2⟩
  · exact .inl h
  · by_cases hj : i = j
    · subst hj
      rw [List.getElem?_set] at h1
      split at h1
      · split at h1
        · exact absurd (Option.some.inj h1) (hd z)
        · cases h1
      · rename_i q; exact absurd rfl q
    · rw [List.getElem?_set_ne hj] at h1 h2
      exact .inr ⟨j, z, h1, h2⟩
/-- x = e -/
theorem EnvOk.set (e : EnvOk F H σ ρ) {i : Nat} {v : V} {d : D} (h : Is F.B (OS F σ ρ) F.K H v d) : EnvOk F H (σ.set i (some v)) (ρ.set i (some (.val d))) where
  ex := e.ex
  len := by rw [List.length_set, List.length_set]; exact e.len
  ob := e.ob
  ol := e.ol
  oa := e.oa
  val := fun j dj hj => by
    have s : ∀ a, OS F (σ.set i (some v)) (ρ.set i (some (.val d))) a → OS F σ ρ a ∨ H a = none := fun a z => .inl (os_val (fun _ q => by cases q) z)
    by_cases hij : i = j
    · subst hij
      by_cases hl : i < ρ.length
      · rw [List.getElem?_set_self hl] at hj
        cases hj
        exact ⟨v, by rw [List.getElem?_set_self (by rw [e.len]; exact hl)], h.sub s (.inl e.ob)⟩
      · rw [List.getElem?_eq_none (by rw [List.length_set]; omega)] at hj; cases hj
    · rw [List.getElem?_set_ne hij] at hj
      obtain ⟨w, h1, h2⟩ := e.val j dj hj
      exact ⟨w, by rw [List.getElem?_set_ne hij]; exact h1, h2.sub s (.inl e.ob)⟩
  own := fun j dj hj => by
    have s : ∀ a, OS F (σ.set i (some v)) (ρ.set i (some (.val d))) a → OS F σ ρ a ∨ H a = none := fun a z => .inl (os_val (fun _ q => by cases q) z)
    by_cases hij : i = j
    · subst hij
      by_cases hl : i < ρ.length
      · rw [List.getElem?_set_self hl] at hj
        cases hj
      · rw [List.getElem?_eq_none (by rw [List.length_set]; omega)] at hj; cases hj
    · rw [List.getElem?_set_ne hij] at hj
      obtain ⟨a, h1, h2, h3⟩ := e.own j dj hj
      exact ⟨a, by rw [List.getElem?_set_ne hij]; exact h1, h2.sub s (.inl e.ob), h3⟩
  uniq := fun j k dj dk a hj hk h1 h2 => by
    have ne : ∀ (j : Nat) (dj : D), (ρ.set i (some (.val d)))[j]? = some (some (.own dj)) → i ≠ j := fun j dj hj hij => by
      subst hij
      rw [List.getElem?_set] at hj
      split at hj
      · split at hj
        · cases hj
        · cases hj
      · rename_i q; exact absurd rfl q
    have n1 := ne j dj hj
    have n2 := ne k dk hk
    rw [List.getElem?_set_ne n1] at hj h1
    rw [List.getElem?_set_ne n2] at hk h2
    exact e.uniq j k dj dk a hj hk h1 h2
  gh := fun p hp => by
    have s : ∀ a, OS F (σ.set i (some v)) (ρ.set i (some (.val d))) a → OS F σ ρ a ∨ H a = none := fun a z => .inl (os_val (fun _ q => by cases q) z)
    exact (e.gh p hp).sub s (.inl e.ob)
/-- a slot forgotten -/
theorem EnvOk.unset (e : EnvOk F H σ ρ) {i : Nat} {w : Option V} : EnvOk F H (σ.set i w) (ρ.set i none) where
  ex := e.ex
  len := by rw [List.length_set, List.length_set]; exact e.len
  ob := e.ob
  ol := e.ol
  oa := e.oa
  val := fun j dj hj => by
    have s : ∀ a, OS F (σ.set i w) (ρ.set i none) a → OS F σ ρ a ∨ H a = none := fun a z => .inl (os_val (fun _ q => by cases q) z)
    by_cases hij : i = j
    · subst hij
      by_cases hl : i < ρ.length
      · rw [List.getElem?_set_self hl] at hj
        cases hj
      · rw [List.getElem?_eq_none (by rw [List.length_set]; omega)] at hj; cases hj
    · rw [List.getElem?_set_ne hij] at hj
      obtain ⟨u, h1, h2⟩ := e.val j dj hj
      exact ⟨u, by rw [List.getElem?_set_ne hij]; exact h1, h2.sub s (.inl e.ob)⟩
  own := fun j dj hj => by
    have s : ∀ a, OS F (σ.set i w) (ρ.set i none) a → OS F σ ρ a ∨ H a = none := fun a z => .inl (os_val (fun _ q => by cases q) z)
    by_cases hij : i = j
    · subst hij
      by_cases hl : i < ρ.length
      · rw [List.getElem?_set_self hl] at hj
        cases hj
      · rw [List.getElem?_eq_none (by rw [List.length_set]; omega)] at hj; cases hj
    · rw [List.getElem?_set_ne hij] at hj
      obtain ⟨a, h1, h2, h3⟩ := e.own j dj hj
      exact ⟨a, by rw [List.getElem?_set_ne hij]; exact h1, h2.sub s (.inl e.ob), h3⟩
  uniq := fun j k dj dk a hj hk h1 h2 => by
    have ne : ∀ (j : Nat) (dj : D), (ρ.set i none)[j]? = some (some (.own dj)) → i ≠ j := fun j dj hj hij => by
      subst hij
      rw [List.getElem?_set] at hj
      split at hj
      · split at hj
        · cases hj
        · cases hj
      · rename_i q; exact absurd rfl q
    have n1 := ne j dj hj
    have n2 := ne k dk hk
    rw [List.getElem?_set_ne n1] at hj h1
    rw [List.getElem?_set_ne n2] at hk h2
    exact e.uniq j k dj dk a hj hk h1 h2
  gh := fun p hp => by
    have s : ∀ a, OS F (σ.set i w) (ρ.set i none) a → OS F σ ρ a ∨ H a = none := fun a z => .inl (os_val (fun _ q => by cases q) z)
    exact (e.gh p hp).sub s (.inl e.ob)
/-- new: nothing of it knows it -/
def OwnN (B : Bg) (O : Addr → Prop) (K : PySem.W.Frag) (H : Hp) (a : Addr) (d : D) : Prop := OwnAt B (fun c => O c ∨ c = a) K H a d
theorem own_new {p : Addr} {xs : List V} {ds : List D} (r : IsL B O K H xs ds) (hp : H p = none) (ob : O B.b) : OwnN B O K (upd H p (.lst xs)) p (.lst ds) :=
  .inl ⟨xs, ds, rfl, upd_same, (r.sub (O' := fun c => O c ∨ c = p) (fun c z => z.elim .inl fun z => .inr (by rw [z]; exact hp)) (.inl ob)).ex (Ex.new hp) (.inl ob)⟩
theorem own_newD {p : Addr} {kvs : List (Key × V)} {ks vs : List D} (r1 : IsL B O K H (kvs.map fun p => kV p.1) ks) (r2 : IsL B O K H (kvs.map fun p => p.2) vs) (hp : H p = none) (ob : O B.b) : OwnN B O K (upd H p (.dK kvs)) p (.dct (ks.zip vs)) :=
  .inr ⟨kvs, ks, vs, rfl, upd_same, (r1.sub (O' := fun c => O c ∨ c = p) (fun c z => z.elim .inl fun z => .inr (by rw [z]; exact hp)) (.inl ob)).ex (Ex.new hp) (.inl ob), (r2.sub (O' := fun c => O c ∨ c = p) (fun c z => z.elim .inl fun z => .inr (by rw [z]; exact hp)) (.inl ob)).ex (Ex.new hp) (.inl ob)⟩
theorem EnvOk.nb (e : EnvOk F H σ ρ) {a : Addr} (h : ¬ F.O a) : a ≠ F.B.b ∧ a ≠ F.B.l := ⟨fun z => h (by rw [z]; exact e.ob), fun z => h (by rw [z]; exact e.ol)⟩
/-- x = a new list or dict -/
theorem EnvOk.setOwn (e : EnvOk F H σ ρ) {i : Nat} {a : Addr} {d : D} (x : Ex F.B H H') (n : H a = none) (o : OwnN F.B (OS F σ ρ) F.K H' a d) : EnvOk F H' (σ.set i (some (.ref a))) (ρ.set i (some (.own d))) := by
  have s0 : ∀ c, OS F (σ.set i (some (.ref a))) (ρ.set i (some (.own d))) c → OS F σ ρ c ∨ c = a := fun c z => by
    rcases z with z | ⟨j, w, z1, z2⟩
    · exact .inl (.inl z)
    · by_cases hij : i = j
      · subst hij
        rw [List.getElem?_set] at z2
        split at z2
        · split at z2
          · exact .inr (V.ref.inj (Option.some.inj (Option.some.inj z2))).symm
          · cases z2
        · rename_i q; exact absurd rfl q
      · rw [List.getElem?_set_ne hij] at z1 z2
        exact .inl (.inr ⟨j, w, z1, z2⟩)
  have s : ∀ c, OS F (σ.set i (some (.ref a))) (ρ.set i (some (.own d))) c → OS F σ ρ c ∨ H c = none := fun c z => (s0 c z).elim .inl fun z => .inr (by rw [z]; exact n)
  have nO : ¬ OS F σ ρ a := fun z => e.oall a z n
  have nO1 : ¬ F.O a := fun z => nO (.inl z)
  have n0 : F.H0 a = none := e.ex.free n
  have e' := e.ex' x
  refine ⟨e'.ex, by rw [List.length_set, List.length_set]; exact e.len, e.ob, e.ol, e'.oa, fun j w hj => ?_, fun j w hj => ?_, fun j k w u c hj hk h1 h2 => ?_, fun p hp => ?_⟩
  · by_cases hij : i = j
    · subst hij
      rw [List.getElem?_set] at hj
      split at hj
      · split at hj
        · cases hj
        · cases hj
      · rename_i q; exact absurd rfl q
    · rw [List.getElem?_set_ne hij] at hj
      obtain ⟨v, h1, h2⟩ := e.val j w hj
      exact ⟨v, by rw [List.getElem?_set_ne hij]; exact h1, (h2.sub s (.inl e.ob)).ex x (.inl e.ob)⟩
  · by_cases hij : i = j
    · subst hij
      by_cases hl : i < ρ.length
      · rw [List.getElem?_set_self hl] at hj
        cases hj
        exact ⟨a, by rw [List.getElem?_set_self (by rw [e.len]; exact hl)], OwnAt.sub (fun c z => .inl (s0 c z)) (.inl e.ob) o, n0, nO1⟩
      · rw [List.getElem?_eq_none (by rw [List.length_set]; omega)] at hj; cases hj
    · rw [List.getElem?_set_ne hij] at hj
      obtain ⟨c, h1, h2, h3, h4⟩ := e.own j w hj
      exact ⟨c, by rw [List.getElem?_set_ne hij]; exact h1, (h2.sub s (.inl e.ob)).ex x (.inl e.ob) (e.nb h4).1, h3, h4⟩
  · have at_i : ∀ (j : Nat) (w : D) (c : Addr), (ρ.set i (some (.own d)))[j]? = some (some (.own w)) → (σ.set i (some (.ref a)))[j]? = some (some (.ref c)) → (i = j ∧ c = a) ∨ (i ≠ j ∧ ρ[j]? = some (some (.own w)) ∧ σ[j]? = some (some (.ref c)) ∧ c ≠ a) := fun j w c hj hc => by
      by_cases hij : i = j
      · subst hij
        rw [List.getElem?_set] at hc
        split at hc
        · split at hc
          · exact .inl ⟨rfl, (V.ref.inj (Option.some.inj (Option.some.inj hc))).symm⟩
          · cases hc
        · rename_i q; exact absurd rfl q
      · rw [List.getElem?_set_ne hij] at hj hc
        exact .inr ⟨hij, hj, hc, fun z => nO (.inr ⟨j, w, hj, by rw [hc, z]⟩)⟩
    rcases at_i j w c hj h1 with ⟨a1, a2⟩ | ⟨a1, a2, a3, a4⟩
    · rcases at_i k u c hk h2 with ⟨b1, b2⟩ | ⟨b1, b2, b3, b4⟩
      · exact a1.symm.trans b1
      · exact absurd a2 b4
    · rcases at_i k u c hk h2 with ⟨b1, b2⟩ | ⟨b1, b2, b3, b4⟩
      · exact absurd b2 a4
      · exact e.uniq j k w u c a2 b2 a3 b3
  · exact ((e.gh p hp).sub s (.inl e.ob)).ex x (.inl e.ob)
/-- it is shared from now on, and no more changed -/
theorem EnvOk.freeze (e : EnvOk F H σ ρ) {i : Nat} {d : D} (h : ρ[i]? = some (some (.own d))) : EnvOk F H σ (ρ.set i (some (.val d))) := by
  obtain ⟨a, ha, o, h0, hO⟩ := e.own i d h
  have es : σ = σ.set i (some (.ref a)) := by
    apply List.ext_getElem?
    intro j
    rw [List.getElem?_set]
    split
    · rename_i q; subst q
      split
      · exact ha
      · rename_i q; rw [List.getElem?_eq_none (by omega)]
    · rfl
  have s : ∀ c, OS F σ (ρ.set i (some (.val d))) c → OS F σ ρ c ∧ c ≠ a := fun c z => by
    rcases z with z | ⟨j, w, z1, z2⟩
    · exact ⟨.inl z, fun q => hO (by rw [← q]; exact z)⟩
    · by_cases hij : i = j
      · subst hij
        rw [List.getElem?_set] at z1
        split at z1
        · split at z1
          · cases z1
          · cases z1
        · rename_i q; exact absurd rfl q
      · rw [List.getElem?_set_ne hij] at z1
        exact ⟨.inr ⟨j, w, z1, z2⟩, fun q => hij (e.uniq i j d w a h z1 ha (by rw [z2, q]))⟩
  have s' : ∀ c, OS F σ (ρ.set i (some (.val d))) c → OS F σ ρ c ∨ H c = none := fun c z => .inl (s c z).1
  refine ⟨e.ex, by rw [List.length_set]; exact e.len, e.ob, e.ol, e.oa, fun j w hj => ?_, fun j w hj => ?_, fun j k w u c hj hk h1 h2 => ?_, fun p hp => (e.gh p hp).sub s' (.inl e.ob)⟩
  · by_cases hij : i = j
    · subst hij
      rw [List.getElem?_set] at hj
      split at hj
      · split at hj
        · cases hj
          exact ⟨_, ha, o.is (fun c z => (s c z).1) (.inl e.ob) fun z => (s a z).2 rfl⟩
        · cases hj
      · rename_i q; exact absurd rfl q
    · rw [List.getElem?_set_ne hij] at hj
      obtain ⟨v, h1, h2⟩ := e.val j w hj
      exact ⟨v, h1, h2.sub s' (.inl e.ob)⟩
  · by_cases hij : i = j
    · subst hij
      rw [List.getElem?_set] at hj
      split at hj
      · split at hj
        · cases hj
        · cases hj
      · rename_i q; exact absurd rfl q
    · rw [List.getElem?_set_ne hij] at hj
      obtain ⟨c, h1, h2, h3⟩ := e.own j w hj
      exact ⟨c, h1, h2.sub s' (.inl e.ob), h3⟩
  · have ne : ∀ (j : Nat) (w : D), (ρ.set i (some (.val d)))[j]? = some (some (.own w)) → ρ[j]? = some (some (.own w)) := fun j w hj => by
      by_cases hij : i = j
      · subst hij
        rw [List.getElem?_set] at hj
        split at hj
        · split at hj
          · cases hj
          · cases hj
        · rename_i q; exact absurd rfl q
      · rw [List.getElem?_set_ne hij] at hj; exact hj
    exact e.uniq j k w u c (ne j w hj) (ne k u hk) h1 h2
theorem Ex.mutN {a : Addr} {o : HO} (x : Ex B H H') (n : H a = none) (nb : a ≠ B.b) (nl : a ≠ B.l) : Ex B H (upd H' a o) := ⟨fun c u e => by
    rw [upd_ne (ne_of_none e n)]
    exact x.keep c u e, fun c u e => by
    rw [upd_ne (ne_of_none e n)]
    exact x.there c u e, fun q => by
    obtain ⟨n, ns, i, r, k, sd, e1, e2, z⟩ := x.bag q
    exact ⟨n, ns, i, r, k, sd, by rw [upd_ne (Ne.symm nb)]; exact e1, by rw [upd_ne (Ne.symm nl)]; exact e2, z⟩⟩
/-- an own list or dict is changed -/
theorem EnvOk.mutOwn (e : EnvOk F H σ ρ) {i : Nat} {a : Addr} {d d' : D} {o : HO} (h : ρ[i]? = some (some (.own d))) (ha : σ[i]? = some (some (.ref a))) (hn : OwnAt F.B (OS F σ ρ) F.K (upd H a o) a d') : EnvOk F (upd H a o) σ (ρ.set i (some (.own d'))) := by
  obtain ⟨a', ha', oo, h0, hO⟩ := e.own i d h
  rw [ha] at ha'
  cases ha'
  obtain ⟨u, hu, hk⟩ : ∃ u, H a = some u ∧ ((∃ ys, u = .lst ys) ∨ ∃ ks, u = .dK ks) := by
    rcases oo with ⟨xs, ds, _, h1, _⟩ | ⟨kvs, ks, vs, _, h1, _⟩
    · exact ⟨_, h1, .inl ⟨_, rfl⟩⟩
    · exact ⟨_, h1, .inr ⟨_, rfl⟩⟩
  obtain ⟨nb, nl⟩ := e.nb hO
  have hil : i < ρ.length := by
    rcases Nat.lt_or_ge i ρ.length with q | q
    · exact q
    · rw [List.getElem?_eq_none q] at h; cases h
  have op : OS F σ ρ a := .inr ⟨i, d, h, ha⟩
  have so : ∀ (j : Nat), (∃ w, (ρ.set i (some (.own d')))[j]? = some (some (.own w))) ↔ ∃ w, ρ[j]? = some (some (.own w)) := fun j => by
    by_cases hij : i = j
    · subst hij
      rw [List.getElem?_set_self hil]
      exact ⟨fun _ => ⟨d, h⟩, fun _ => ⟨d', rfl⟩⟩
    · rw [List.getElem?_set_ne hij]
  have s : ∀ c, OS F σ (ρ.set i (some (.own d'))) c → OS F σ ρ c := fun c z => by
    rcases z with z | ⟨j, w, z1, z2⟩
    · exact .inl z
    · obtain ⟨w', q⟩ := (so j).mp ⟨w, z1⟩
      exact .inr ⟨j, w', q, z2⟩
  have sub : ∀ c, OS F σ (ρ.set i (some (.own d'))) c → OS F σ ρ c ∨ (upd H a o) c = none := fun c z => .inl (s c z)
  refine ⟨e.ex.mutN h0 nb nl, by rw [List.length_set]; exact e.len, e.ob, e.ol, fun c z => ?_, fun j w hj => ?_, fun j w hj => ?_, fun j k w u' c hj hk' h1 h2 => ?_, fun p hp => ?_⟩
  · rw [upd_ne (fun q => hO (by rw [← q]; exact z))]
    exact e.oa c z
  · by_cases hij : i = j
    · subst hij
      rw [List.getElem?_set_self hil] at hj; cases hj
    · rw [List.getElem?_set_ne hij] at hj
      obtain ⟨v, h1, h2⟩ := e.val j w hj
      exact ⟨v, h1, (h2.mut op hu hk nb nl).sub sub (.inl e.ob)⟩
  · by_cases hij : i = j
    · subst hij
      rw [List.getElem?_set_self hil] at hj
      cases hj
      exact ⟨a, ha, hn.sub sub (.inl e.ob), h0, hO⟩
    · rw [List.getElem?_set_ne hij] at hj
      obtain ⟨c, h1, h2, h3, h4⟩ := e.own j w hj
      have nca : c ≠ a := fun q => hij (e.uniq i j d w a h hj ha (by rw [h1, q]))
      refine ⟨c, h1, ?_, h3, h4⟩
      rcases h2 with ⟨xs, ds, q1, q2, q3⟩ | ⟨kvs, ks, vs, q1, q2, q3, q4⟩
      · exact .inl ⟨xs, ds, q1, by rw [upd_ne nca]; exact q2, (q3.mut op hu hk nb nl).sub sub (.inl e.ob)⟩
      · exact .inr ⟨kvs, ks, vs, q1, by rw [upd_ne nca]; exact q2, (q3.mut op hu hk nb nl).sub sub (.inl e.ob), (q4.mut op hu hk nb nl).sub sub (.inl e.ob)⟩
  · obtain ⟨w1, q1⟩ := (so j).mp ⟨w, hj⟩
    obtain ⟨w2, q2⟩ := (so k).mp ⟨u', hk'⟩
    exact e.uniq j k w1 w2 c q1 q2 h1 h2
  · exact ((e.gh p hp).mut op hu hk nb nl).sub sub (.inl e.ob)
/-- a further fact that stays -/
theorem EnvOk.ghost (e : EnvOk F H σ ρ) {v : V} {d : D} (h : Is F.B (OS F σ ρ) F.K H v d) : EnvOk { F with G := (v, d) :: F.G } H σ ρ := ⟨e.ex, e.len, e.ob, e.ol, e.oa, e.val, e.own, e.uniq, fun p hp => by
  rcases List.mem_cons.mp hp with rfl | hp
  · exact h
  · exact e.gh p hp⟩
theorem EnvOk.unghost {q : V × D} (e : EnvOk { F with G := q :: F.G } H σ ρ) : EnvOk F H σ ρ := ⟨e.ex, e.len, e.ob, e.ol, e.oa, e.val, e.own, e.uniq, fun p hp => e.gh p (List.mem_cons_of_mem _ hp)⟩
/-- a list at p that a comprehension fills -/
abbrev Fx.bar (F : Fx) (p : Addr) : Fx := { F with O := fun c => F.O c ∨ c = p }
theorem EnvOk.bar (e : EnvOk F H σ ρ) {p : Addr} {o : HO} (hp : H p = none) : EnvOk (F.bar p) (upd H p o) σ ρ := by
  have s : ∀ c, OS (F.bar p) σ ρ c → OS F σ ρ c ∨ H c = none := fun c z => by
    rcases z with (z | z) | z
    · exact .inl (.inl z)
    · exact .inr (by rw [z]; exact hp)
    · exact .inl (.inr z)
  have x : Ex F.B H (upd H p o) := Ex.new hp
  refine ⟨e.ex.trans x, e.len, .inl e.ob, .inl e.ol, fun c z => ?_, fun j w hj => ?_, fun j w hj => ?_, e.uniq, fun q hq => ((e.gh q hq).sub s (.inl (.inl e.ob))).ex x (.inl (.inl e.ob))⟩
  · rcases z with z | z
    · rw [upd_ne (fun q => e.oa c z (by rw [q]; exact hp))]
      exact e.oa c z
    · rw [z, upd_same]; simp
  · obtain ⟨v, h1, h2⟩ := e.val j w hj
    exact ⟨v, h1, (h2.sub s (.inl (.inl e.ob))).ex x (.inl (.inl e.ob))⟩
  · obtain ⟨c, h1, h2, h3, h4⟩ := e.own j w hj
    exact ⟨c, h1, (h2.sub s (.inl (.inl e.ob))).ex x (.inl (.inl e.ob)) (e.nb h4).1, h3, fun z => z.elim h4 fun q => h2.there (by rw [q]; exact hp)⟩
theorem EnvOk.unbar {p : Addr} (e : EnvOk (F.bar p) H σ ρ) (ob : F.O F.B.b) (ol : F.O F.B.l) : EnvOk F H σ ρ := by
  have s : ∀ c, OS F σ ρ c → OS (F.bar p) σ ρ c ∨ H c = none := fun c z => z.elim (fun z => .inl (.inl (.inl z))) fun z => .inl (.inr z)
  exact ⟨e.ex, e.len, ob, ol, fun c z => e.oa c (.inl z), fun j w hj => by
    obtain ⟨v, h1, h2⟩ := e.val j w hj
    exact ⟨v, h1, h2.sub s (.inl ob)⟩, fun j w hj => by
    obtain ⟨c, h1, h2, h3, h4⟩ := e.own j w hj
    exact ⟨c, h1, h2.sub s (.inl ob), h3, fun z => h4 (.inl z)⟩, e.uniq, fun q hq => (e.gh q hq).sub s (.inl ob)⟩
/-- the barred list is changed -/
theorem EnvOk.barMut {p : Addr} {xs : List V} {o : HO} (e : EnvOk (F.bar p) H σ ρ) (hp : H p = some (.lst xs)) (h0 : F.H0 p = none) (nb : p ≠ F.B.b) (nl : p ≠ F.B.l) : EnvOk (F.bar p) (upd H p o) σ ρ := by
  have op : OS (F.bar p) σ ρ p := .inl (.inr rfl)
  have hk : (∃ ys, HO.lst xs = .lst ys) ∨ ∃ ks, HO.lst xs = .dK ks := .inl ⟨xs, rfl⟩
  refine ⟨e.ex.mutN h0 nb nl, e.len, e.ob, e.ol, fun c z => ?_, fun j w hj => ?_, fun j w hj => ?_, e.uniq, fun q hq => (e.gh q hq).mut op hp hk nb nl⟩
  · by_cases q : c = p
    · rw [q, upd_same]; simp
    · rw [upd_ne q]; exact e.oa c z
  · obtain ⟨v, h1, h2⟩ := e.val j w hj
    exact ⟨v, h1, h2.mut op hp hk nb nl⟩
  · obtain ⟨c, h1, h2, h3, h4⟩ := e.own j w hj
    have nc : c ≠ p := fun q => h4 (.inr q)
    refine ⟨c, h1, ?_, h3, h4⟩
    rcases h2 with ⟨xs, ds, q1, q2, q3⟩ | ⟨kvs, ks, vs, q1, q2, q3, q4⟩
    · exact .inl ⟨xs, ds, q1, by rw [upd_ne nc]; exact q2, q3.mut op hp hk nb nl⟩
    · exact .inr ⟨kvs, ks, vs, q1, by rw [upd_ne nc]; exact q2, q3.mut op hp hk nb nl, q4.mut op hp hk nb nl⟩
end
end HD
/-! HD2: what a piece of syntax asks, told over data (D) and slots (Rho) alone. -/
namespace HD
open PySem L2
abbrev Err := Str × D
abbrev DE := Rho → (Err → Prop) → (D → Prop) → Prop
abbrev DT := Rho → (Err → Prop) → (Bool → Prop) → Prop
abbrev DA := Rho → (Err → Prop) → (List D → Prop) → Prop
structure DEnds where
  nx : Rho → Prop
  rt : D → Prop
  bk : Rho → Prop
  ct : Rho → Prop
  ex : Rho → Err → Prop
abbrev DS := DEnds → Rho → Prop
abbrev DFn := List D → (Err → Prop) → (D → Prop) → Prop
abbrev D2 := D → D → (D → Prop) → Prop
/-- the field of an error of this class -/
def fldOf (c : Str) : Str := if c = "TooMany" then "limit" else if c ∈ (["BadText", "BadHearing", "BadSteps", "BadSessions", "BadRun", "BadPromises"] : List Str) then "at" else "value"
section
variable (F : Fx) (Cl : Str → Addr) (W : WX)
def XO (σ : L2.St) (H : Hp) (ρ : Rho) (Xd : Err → Prop) : Prop := ∀ e, Xd e → ∀ dd v H', Ex F.B H H' → H' dd = some (.xd [(fldOf e.1, v)]) → Is F.B (OS F σ ρ) F.K H' v e.2 → W (.ref (Cl e.1)) (some dd) σ H'
def upE (de : DE) : TE := fun σ H Q => ∃ ρ Xd Qd, EnvOk F H σ ρ ∧ de ρ Xd Qd ∧ XO F Cl W σ H ρ Xd ∧ ∀ d, Qd d → ∀ v H', Ex F.B H H' → Is F.B (OS F σ ρ) F.K H' v d → Q v H'
def upT (dt : DT) : TT := fun σ H Q => ∃ ρ Xd Qd, EnvOk F H σ ρ ∧ dt ρ Xd Qd ∧ XO F Cl W σ H ρ Xd ∧ ∀ c, Qd c → ∀ H', Ex F.B H H' → Q c H'
def upA (da : DA) : TA := fun σ H Q => ∃ ρ Xd Qd, EnvOk F H σ ρ ∧ da ρ Xd Qd ∧ XO F Cl W σ H ρ Xd ∧ ∀ ds, Qd ds → ∀ vs H', Ex F.B H H' → IsL F.B (OS F σ ρ) F.K H' vs ds → Q vs H'
/-- a new list or dict, known to nobody yet -/
def upN (de : DE) : TE := fun σ H Q => ∃ ρ Xd Qd, EnvOk F H σ ρ ∧ de ρ Xd Qd ∧ XO F Cl W σ H ρ Xd ∧ ∀ d, Qd d → ∀ a H', Ex F.B H H' → H a = none → OwnN F.B (OS F σ ρ) F.K H' a d → Q (.ref a) H'
def upS (ds : DS) : TS := fun D σ H => ∃ ρ De, EnvOk F H σ ρ ∧ ds De ρ ∧
  (∀ ρ', De.nx ρ' → ∀ σ' H', EnvOk F H' σ' ρ' → D.nx σ' H') ∧ (∀ d, De.rt d → ∀ v H', Ex F.B F.H0 H' → Is F.B F.O F.K H' v d → D.rt v H') ∧
  (∀ ρ', De.bk ρ' → ∀ σ' H', EnvOk F H' σ' ρ' → D.bk σ' H') ∧ (∀ ρ', De.ct ρ' → ∀ σ' H', EnvOk F H' σ' ρ' → D.ct σ' H') ∧
  (∀ ρ' e, De.ex ρ' e → ∀ σ' H' dd v, EnvOk F H' σ' ρ' → H' dd = some (.xd [(fldOf e.1, v)]) → Is F.B (OS F σ' ρ') F.K H' v e.2 → W (.ref (Cl e.1)) (some dd) σ' H')
end
section
variable {X : Cx} {F : Fx} {Cl : Str → Addr} {W : WX}
theorem XO.ex {σ : L2.St} {H H' : Hp} {ρ : Rho} {Xd : Err → Prop} (h : XO F Cl W σ H ρ Xd) (x : Ex F.B H H') : XO F Cl W σ H' ρ Xd := fun e he dd v H2 x2 => h e he dd v H2 (x.trans x2)
theorem pe_imp {e : Expr} {t t' : TE} (h : PE X e t) (q : ∀ σ H Q, t' σ H Q → t σ H Q) : PE X e t' := ⟨fun pins s σ H Q I z => h.run pins s σ H Q I (q σ H Q z)⟩
theorem pt_imp {e : Expr} {t t' : TT} (h : PT X e t) (q : ∀ σ H Q, t' σ H Q → t σ H Q) : PT X e t' := ⟨fun pins s σ H Q I z => h.run pins s σ H Q I (q σ H Q z)⟩
theorem pw_imp {e : Expr} {t t' : TT} (h : PW X e t) (q : ∀ σ H Q, t' σ H Q → t σ H Q) : PW X e t' := ⟨fun wh pins s σ H Q I z => h.run wh pins s σ H Q I (q σ H Q z)⟩
theorem pa_imp {e : List Expr} {t t' : TA} (h : PA X e t) (q : ∀ σ H Q, t' σ H Q → t σ H Q) : PA X e t' := ⟨fun pos pins s σ H Q I z => h.run pos pins s σ H Q I (q σ H Q z)⟩
theorem ps_imp {st : Stmt} {t t' : TS} (h : PS X st t) (q : ∀ D σ H, t' D σ H → t D σ H) : PS X st t' := ⟨fun pins s σ H D I z => h.run pins s σ H D I (q D σ H z)⟩
theorem pss_imp {st : List Stmt} {t t' : TS} (h : PSs X st t) (q : ∀ D σ H, t' D σ H → t D σ H) : PSs X st t' := ⟨fun pins s σ H D I z => h.run pins s σ H D I (q D σ H z)⟩
theorem pts_imp {es : List Expr} {t t' : TT} (h : PTs X es t) (q : ∀ σ H Q, t' σ H Q → t σ H Q) : PTs X es t' := ⟨fun pins s σ H Q I z => h.run pins s σ H Q I (q σ H Q z)⟩
/-! ### names, constants -/
def dVar (i : Nat) : DE := fun ρ _ Q => ∃ d, ρ[i]? = some (some (.val d)) ∧ Q d
def dC (d : D) : DE := fun _ _ Q => Q d
theorem xVar {e : Expr} {i : Nat} (h : PE X e (tVar i)) : PE X e (upE F Cl W (dVar i)) := pe_imp h fun σ H Q ⟨ρ, Xd, Qd, env, ⟨d, h1, h2⟩, xo, k⟩ => by
  obtain ⟨v, hv, is⟩ := env.val i d h1
  exact ⟨v, hv, k d h2 v H (Ex.refl _ _) is⟩
theorem xC {e : Expr} {v : V} {d : D} (h : PE X e (tC v)) (is : ∀ (B : Bg) (O : Addr → Prop) (H : Hp), Is B O X.K H v d) (hK : X.K = F.K := by rfl) : PE X e (upE F Cl W (dC d)) := pe_imp h fun σ H Q ⟨ρ, Xd, Qd, env, h1, xo, k⟩ =>
  k d h1 v H (Ex.refl _ _) (by rw [← hK]; exact is _ _ _)
theorem okS_by {s : Str} (h : (decide (s.length ≤ 1000) && PySem.PyData.strOk s) = true) : okS s := by
  obtain ⟨h1, h2⟩ := Bool.and_eq_true_iff.mp h
  exact ⟨Nat.le_trans (of_decide_eq_true h1) (by rw [sizeLine_eq]; decide), h2⟩
theorem xInt {i : Int} {j pos} : PE X (.Constant (.int i) j pos) (upE F Cl W (dC (.int i))) := pe_imp pe_int fun σ H Q ⟨ρ, Xd, Qd, env, h1, xo, k⟩ => k _ h1 _ H (Ex.refl _ _) (.int i)
theorem xBl {b : Bool} {j pos} : PE X (.Constant (.bool b) j pos) (upE F Cl W (dC (.bl b))) := pe_imp pe_bl fun σ H Q ⟨ρ, Xd, Qd, env, h1, xo, k⟩ => k _ h1 _ H (Ex.refl _ _) (.bl b)
theorem xNon {j pos} : PE X (.Constant .none j pos) (upE F Cl W (dC .non)) := pe_imp pe_non fun σ H Q ⟨ρ, Xd, Qd, env, h1, xo, k⟩ => k _ h1 _ H (Ex.refl _ _) .non
theorem xStr {s : Str} {j pos} (h : okS s) : PE X (.Constant (.str s) j pos) (upE F Cl W (dC (.str s))) := pe_imp pe_str fun σ H Q ⟨ρ, Xd, Qd, env, h1, xo, k⟩ => k _ h1 _ H (Ex.refl _ _) (.str s h)
/-! ### two-place operations -/
/-- the operation on values is the one on data -/
def OpS (B : Bg) (K : PySem.W.Frag) (r : R2) (r' : D2) : Prop := ∀ (O : Addr → Prop) (H : Hp) (x y : V) (dx dy : D) (Qd : D → Prop) (Q : VK), O B.b → (∀ a, O a → H a ≠ none) → Is B O K H x dx → Is B O K H y dy → r' dx dy Qd →
  (∀ d, Qd d → ∀ v H', Ex B H H' → Is B O K H' v d → Q v H') → r x y H Q
def dOp (r : D2) (da db : DE) : DE := fun ρ Xd Q => da ρ Xd fun x => db ρ Xd fun y => r x y Q
theorem up_op {r : R2} {r' : D2} {da db : DE} (hs : OpS F.B F.K r r') : ∀ σ H Q, upE F Cl W (dOp r' da db) σ H Q → tOp r (upE F Cl W da) (upE F Cl W db) σ H Q := fun σ H Q ⟨ρ, Xd, Qd, env, h1, xo, k⟩ =>
  ⟨ρ, Xd, _, env, h1, xo, fun dx hx x H1 e1 i1 => ⟨ρ, Xd, _, env.ex' e1, hx, xo.ex e1, fun dy hy y H2 e2 i2 => by
    have env2 := (env.ex' e1).ex' e2
    exact hs _ H2 x y dx dy Qd Q env2.osb env2.oall (i1.ex e2 env.osb) i2 hy fun d hd v H' e3 i3 => k d hd v H' ((e1.trans e2).trans e3) i3⟩⟩
theorem xOp {a b : Expr} {op : Operator} {pos : Pos} {r : R2} {r' : D2} {da db : DE} (ho : OpR X (binaryOp op) r) (hs : OpS F.B F.K r r') (ha : PE X a (upE F Cl W da)) (hb : PE X b (upE F Cl W db)) : PE X (.BinOp a op b pos) (upE F Cl W (dOp r' da db)) := pe_imp (pe_op ho ha hb) (up_op hs)
theorem xCmp {a b : Expr} {op : CmpOp} {pos : Pos} {r : R2} {r' : D2} {da db : DE} (ho : OpR X (compareOp op) r) (hs : OpS F.B F.K r r') (ha : PE X a (upE F Cl W da)) (hb : PE X b (upE F Cl W db)) (hm : behindInMarks op b = false) : PE X (.Compare a [op] [b] pos) (upE F Cl W (dOp r' da db)) := pe_imp (pe_cmpR ho ha hb hm) (up_op hs)
def dTest (de : DE) : DT := fun ρ Xd Q => de ρ Xd fun d => ∃ c, d = .bl c ∧ Q c
theorem up_test {de : DE} : ∀ σ H Q, upT F Cl W (dTest de) σ H Q → upE F Cl W de σ H fun x H' => ∃ c, x = .bl c ∧ Q c H' := fun σ H Q ⟨ρ, Xd, Qd, env, h1, xo, k⟩ => ⟨ρ, Xd, _, env, h1, xo, fun d ⟨c, hc, q⟩ v H' e i => by
  subst hc
  cases i
  exact ⟨c, rfl, k c q H' e⟩⟩
theorem yCmp {a b : Expr} {op : CmpOp} {pos : Pos} {r : R2} {r' : D2} {da db : DE} (ho : OpR X (compareOp op) r) (hs : OpS F.B F.K r r') (ha : PE X a (upE F Cl W da)) (hb : PE X b (upE F Cl W db)) (hm : behindInMarks op b = false) : PT X (.Compare a [op] [b] pos) (upT F Cl W (dTest (dOp r' da db))) :=
  pt_imp (pt_cmpR ho ha hb hm) fun σ H Q h => up_op hs σ H _ (up_test σ H Q h)
theorem yVal {e : Expr} {de : DE} (h : PE X e (upE F Cl W de)) (he : ∀ whole, isTrue e X.env whole = (do let v ← whole; standAt e.pos; holding [v] (truthy v)) := by intro _; rfl) : PT X e (upT F Cl W (dTest de)) :=
  pt_imp (pt_val h he) up_test
/-- a <= b <= c -/
def dChain (r r' : D2) (da db dc : DE) : DE := fun ρ Xd Q => da ρ Xd fun x => db ρ Xd fun y => r x y fun z => ∃ c, z = .bl c ∧ if c = true then dc ρ Xd fun w => r' y w Q else Q (.bl false)
theorem up_chain {r q : R2} {r' q' : D2} {da db dc : DE} (hs : OpS F.B F.K r r') (hq : OpS F.B F.K q q') : ∀ σ H Q, upE F Cl W (dChain r' q' da db dc) σ H Q → tChain r q (upE F Cl W da) (upE F Cl W db) (upE F Cl W dc) σ H Q := fun σ H Q ⟨ρ, Xd, Qd, env, h1, xo, k⟩ =>
  ⟨ρ, Xd, _, env, h1, xo, fun dx hx x H1 e1 i1 => ⟨ρ, Xd, _, env.ex' e1, hx, xo.ex e1, fun dy hy y H2 e2 i2 => by
    have env2 := (env.ex' e1).ex' e2
    refine hs _ H2 x y dx dy _ _ env2.osb env2.oall (i1.ex e2 env.osb) i2 hy fun d hd v H3 e3 i3 => ?_
    obtain ⟨c, rfl, hc⟩ := hd
    cases i3
    refine ⟨c, rfl, ?_⟩
    have e13 := (e1.trans e2).trans e3
    cases c with
    | false => exact k _ hc _ H3 e13 (.bl false)
    | true =>
      refine ⟨ρ, Xd, _, env.ex' e13, hc, xo.ex e13, fun dw hw w H4 e4 i4 => ?_⟩
      have env4 := (env.ex' e13).ex' e4
      exact hq _ H4 y w dy dw Qd Q env4.osb env4.oall ((i2.ex e3 env.osb).ex e4 env.osb) i4 hw fun d hd v H5 e5 i5 => k d hd v H5 ((e13.trans e4).trans e5) i5⟩⟩
theorem xChain {a b c : Expr} {op op' : CmpOp} {pos : Pos} {r q : R2} {r' q' : D2} {da db dc : DE} (ho : OpR X (compareOp op) r) (hs : OpS F.B F.K r r') (ho' : OpR X (compareOp op') q) (hq : OpS F.B F.K q q') (ha : PE X a (upE F Cl W da)) (hb : PE X b (upE F Cl W db)) (hc : PE X c (upE F Cl W dc))
    (hm : lastMarks [op, op'] [b, c] = false := by rfl) : PE X (.Compare a [op, op'] [b, c] pos) (upE F Cl W (dChain r' q' da db dc)) := pe_imp (pe_chain ho ho' ha hb hc (hm := hm)) (up_chain hs hq)
theorem yChain {a b c : Expr} {op op' : CmpOp} {pos : Pos} {r q : R2} {r' q' : D2} {da db dc : DE} (ho : OpR X (compareOp op) r) (hs : OpS F.B F.K r r') (ho' : OpR X (compareOp op') q) (hq : OpS F.B F.K q q') (ha : PE X a (upE F Cl W da)) (hb : PE X b (upE F Cl W db)) (hc : PE X c (upE F Cl W dc))
    (hm : lastMarks [op, op'] [b, c] = false := by rfl) : PT X (.Compare a [op, op'] [b, c] pos) (upT F Cl W (dTest (dChain r' q' da db dc))) := pt_imp (pt_chain ho ho' ha hb hc (hm := hm)) fun σ H Q h => up_chain hs hq σ H _ (up_test σ H Q h)
/-! ### and, or, not, if -/
def dAnd (a b : DT) : DT := fun ρ Xd Q => a ρ Xd fun c => if c = true then b ρ Xd Q else Q false
def dOr (a b : DT) : DT := fun ρ Xd Q => a ρ Xd fun c => if c = true then Q true else b ρ Xd Q
def dNot (a : DT) : DT := fun ρ Xd Q => a ρ Xd fun c => Q (!c)
def dAndV (a b : DE) : DE := fun ρ Xd Q => a ρ Xd fun x => ∃ c, x = .bl c ∧ if c = true then b ρ Xd Q else Q (.bl false)
def dOrV (a b : DE) : DE := fun ρ Xd Q => a ρ Xd fun x => ∃ c, x = .bl c ∧ if c = true then Q (.bl true) else b ρ Xd Q
def dNotV (a : DE) : DE := fun ρ Xd Q => a ρ Xd fun x => ∃ c, x = .bl c ∧ Q (.bl (!c))
def dIf (t : DT) (a b : DE) : DE := fun ρ Xd Q => t ρ Xd fun c => if c = true then a ρ Xd Q else b ρ Xd Q
theorem wAnd1 {a : Expr} {pos : Pos} {da : DT} (ha : PT X a (upT F Cl W da)) : PW X (.BoolOp .And [a] pos) (upT F Cl W da) := pw_and1 ha
theorem wOr1 {a : Expr} {pos : Pos} {da : DT} (ha : PT X a (upT F Cl W da)) : PW X (.BoolOp .Or [a] pos) (upT F Cl W da) := pw_or1 ha
theorem wAnd {a b : Expr} {rest : List Expr} {pos : Pos} {da db : DT} (ha : PT X a (upT F Cl W da)) (hb : PW X (.BoolOp .And (b :: rest) pos) (upT F Cl W db)) : PW X (.BoolOp .And (a :: b :: rest) pos) (upT F Cl W (dAnd da db)) :=
  pw_imp (pw_and ha hb) fun σ H Q ⟨ρ, Xd, Qd, env, h1, xo, k⟩ => ⟨ρ, Xd, _, env, h1, xo, fun c hc H1 e1 => by
    cases c with
    | true => exact ⟨ρ, Xd, Qd, env.ex' e1, hc, xo.ex e1, fun c' hc' H2 e2 => k c' hc' H2 (e1.trans e2)⟩
    | false => exact k false hc H1 e1⟩
theorem wOr {a b : Expr} {rest : List Expr} {pos : Pos} {da db : DT} (ha : PT X a (upT F Cl W da)) (hb : PW X (.BoolOp .Or (b :: rest) pos) (upT F Cl W db)) : PW X (.BoolOp .Or (a :: b :: rest) pos) (upT F Cl W (dOr da db)) :=
  pw_imp (pw_or ha hb) fun σ H Q ⟨ρ, Xd, Qd, env, h1, xo, k⟩ => ⟨ρ, Xd, _, env, h1, xo, fun c hc H1 e1 => by
    cases c with
    | true => exact k true hc H1 e1
    | false => exact ⟨ρ, Xd, Qd, env.ex' e1, hc, xo.ex e1, fun c' hc' H2 e2 => k c' hc' H2 (e1.trans e2)⟩⟩
theorem yW {e : Expr} {dt : DT} (h : PW X e (upT F Cl W dt)) : PT X e (upT F Cl W dt) := h.pt
theorem yNot {a : Expr} {pos : Pos} {da : DT} (ha : PT X a (upT F Cl W da)) : PT X (.UnaryOp .Not a pos) (upT F Cl W (dNot da)) :=
  pt_imp (pt_not ha) fun σ H Q ⟨ρ, Xd, Qd, env, h1, xo, k⟩ => ⟨ρ, Xd, _, env, h1, xo, fun c hc H1 e1 => k _ hc H1 e1⟩
theorem xOne {a : Expr} {op} {pos : Pos} {da : DE} (ha : PE X a (upE F Cl W da)) : PE X (.BoolOp op [a] pos) (upE F Cl W da) := pe_one ha
theorem xAnd {a b : Expr} {rest : List Expr} {pos : Pos} {da db : DE} (ha : PE X a (upE F Cl W da)) (hb : PE X (.BoolOp .And (b :: rest) pos) (upE F Cl W db)) : PE X (.BoolOp .And (a :: b :: rest) pos) (upE F Cl W (dAndV da db)) :=
  pe_imp (pe_and ha hb) fun σ H Q ⟨ρ, Xd, Qd, env, h1, xo, k⟩ => ⟨ρ, Xd, _, env, h1, xo, fun d ⟨c, hd, hc⟩ v H1 e1 i1 => by
    subst hd
    cases i1
    refine ⟨c, rfl, ?_⟩
    cases c with
    | true => exact ⟨ρ, Xd, Qd, env.ex' e1, hc, xo.ex e1, fun d' hd' v' H2 e2 i2 => k d' hd' v' H2 (e1.trans e2) i2⟩
    | false => exact k _ hc _ H1 e1 (.bl false)⟩
theorem xOr {a b : Expr} {rest : List Expr} {pos : Pos} {da db : DE} (ha : PE X a (upE F Cl W da)) (hb : PE X (.BoolOp .Or (b :: rest) pos) (upE F Cl W db)) : PE X (.BoolOp .Or (a :: b :: rest) pos) (upE F Cl W (dOrV da db)) :=
  pe_imp (pe_or ha hb) fun σ H Q ⟨ρ, Xd, Qd, env, h1, xo, k⟩ => ⟨ρ, Xd, _, env, h1, xo, fun d ⟨c, hd, hc⟩ v H1 e1 i1 => by
    subst hd
    cases i1
    refine ⟨c, rfl, ?_⟩
    cases c with
    | false => exact ⟨ρ, Xd, Qd, env.ex' e1, hc, xo.ex e1, fun d' hd' v' H2 e2 i2 => k d' hd' v' H2 (e1.trans e2) i2⟩
    | true => exact k _ hc _ H1 e1 (.bl true)⟩
theorem xNot {a : Expr} {pos : Pos} {da : DE} (ha : PE X a (upE F Cl W da)) : PE X (.UnaryOp .Not a pos) (upE F Cl W (dNotV da)) :=
  pe_imp (pe_not ha) fun σ H Q ⟨ρ, Xd, Qd, env, h1, xo, k⟩ => ⟨ρ, Xd, _, env, h1, xo, fun d ⟨c, hd, hc⟩ v H1 e1 i1 => by
    subst hd
    cases i1
    exact ⟨c, rfl, k _ hc _ H1 e1 (.bl _)⟩⟩
theorem xIf {c a b : Expr} {pos : Pos} {t : DT} {da db : DE} (hc : PT X c (upT F Cl W t)) (ha : PE X a (upE F Cl W da)) (hb : PE X b (upE F Cl W db)) : PE X (.IfExp c a b pos) (upE F Cl W (dIf t da db)) :=
  pe_imp (pe_ifExp hc ha hb) fun σ H Q ⟨ρ, Xd, Qd, env, h1, xo, k⟩ => ⟨ρ, Xd, _, env, h1, xo, fun c hc H1 e1 => by
    cases c with
    | true => exact ⟨ρ, Xd, Qd, env.ex' e1, hc, xo.ex e1, fun d' hd' v' H2 e2 i2 => k d' hd' v' H2 (e1.trans e2) i2⟩
    | false => exact ⟨ρ, Xd, Qd, env.ex' e1, hc, xo.ex e1, fun d' hd' v' H2 e2 i2 => k d' hd' v' H2 (e1.trans e2) i2⟩⟩
/-! ### arguments, displays -/
def dNil : DA := fun _ _ Q => Q []
def dCons (de : DE) (da : DA) : DA := fun ρ Xd Q => de ρ Xd fun x => da ρ Xd fun xs => Q (x :: xs)
theorem aNil : PA X [] (upA F Cl W dNil) := pa_imp pa_nil fun σ H Q ⟨ρ, Xd, Qd, env, h1, xo, k⟩ => k _ h1 [] H (Ex.refl _ _) .nil
theorem aCons {e : Expr} {es : List Expr} {de : DE} {da : DA} (ha : PE X e (upE F Cl W de)) (hr : PA X es (upA F Cl W da)) (hs : starEach (e :: es) X.env = (false, eval e X.env) :: starEach es X.env := by rfl) : PA X (e :: es) (upA F Cl W (dCons de da)) :=
  pa_imp (pa_cons ha hr hs) fun σ H Q ⟨ρ, Xd, Qd, env, h1, xo, k⟩ => ⟨ρ, Xd, _, env, h1, xo, fun d hd v H1 e1 i1 => ⟨ρ, Xd, _, env.ex' e1, hd, xo.ex e1, fun ds hds vs H2 e2 i2 => k _ hds _ H2 (e1.trans e2) (.cons (i1.ex e2 env.osb) i2)⟩⟩
def dTup (da : DA) : DE := fun ρ Xd Q => da ρ Xd fun ds => ds.length ≤ sizeLine ∧ Q (.tup ds)
def dLst (da : DA) : DE := fun ρ Xd Q => da ρ Xd fun ds => ds.length ≤ sizeLine ∧ Q (.lst ds)
theorem xTup {es : List Expr} {x1 pos} {da : DA} (h : PA X es (upA F Cl W da)) : PE X (.Tuple es x1 pos) (upE F Cl W (dTup da)) :=
  pe_imp (pe_tup h) fun σ H Q ⟨ρ, Xd, Qd, env, h1, xo, k⟩ => ⟨ρ, Xd, _, env, h1, xo, fun ds ⟨hz, hd⟩ vs H1 e1 i1 => ⟨by rw [i1.length]; exact hz, fun p hp =>
    k _ hd _ _ (e1.trans (Ex.new hp)) (.tup (SqT.of upd_same) (i1.ex (Ex.new hp) env.osb))⟩⟩
theorem nLst {es : List Expr} {pos} {da : DA} (h : PA X es (upA F Cl W da)) : PE X (.List es pos) (upN F Cl W (dLst da)) :=
  pe_imp (pe_lst h) fun σ H Q ⟨ρ, Xd, Qd, env, h1, xo, k⟩ => ⟨ρ, Xd, _, env, h1, xo, fun ds ⟨hz, hd⟩ vs H1 e1 i1 => ⟨by rw [i1.length]; exact hz, fun p hp =>
    k _ hd p _ (e1.trans (Ex.new hp)) (e1.free hp) (own_new i1 hp env.osb)⟩⟩
/-- what is new is a value -/
theorem xNew {e : Expr} {de : DE} (h : PE X e (upN F Cl W de)) : PE X e (upE F Cl W de) := pe_imp h fun σ H Q ⟨ρ, Xd, Qd, env, h1, xo, k⟩ => ⟨ρ, Xd, Qd, env, h1, xo, fun d hd a H' e n o =>
  k d hd _ H' e (OwnAt.is o (fun _ z => .inl z) env.osb fun z => env.oall a z n)⟩
end
end HD
/-! HD3: operations, subscripts, built-in functions on data. -/
namespace HD
open PySem L2
/-! ### data as the library's PyData -/
mutual
def toP : D → PyData
  | .non => .none
  | .bl b => .bool b
  | .int i => .int i
  | .str s => .str s
  | .tup xs => .tuple (toPs xs)
  | .lst xs => .list (toPs xs)
  | .dct _ => .dict []
  | .ty _ => .none
  | .bag => .none
def toPs : List D → List PyData
  | [] => []
  | x :: xs => toP x :: toPs xs
end
mutual
/-- no dict, no type, no bag in it -/
def okD : D → Bool
  | .non => true
  | .bl _ => true
  | .int _ => true
  | .str _ => true
  | .tup xs => okDs xs
  | .lst xs => okDs xs
  | .dct _ => false
  | .ty _ => false
  | .bag => false
def okDs : List D → Bool
  | [] => true
  | x :: xs => okD x && okDs xs
end
def eqD (x y : D) : Bool := PyData.eqv (toP x) (toP y)
def depD (x : D) : Nat := (toP x).depth
section
variable {B : Bg} {O : Addr → Prop} {K : PySem.W.Frag} {H : Hp}
mutual
theorem Is.dp : ∀ {v : V} {d : D}, Is B O K H v d → okD d = true → Dp K H v (toP d) ∧ (toP d).canLay0 = true
  | _, _, .non, _ => ⟨.non, by simp only [toP, PyData.canLay0]⟩
  | _, _, .bl c, _ => ⟨.bl c, by simp only [toP, PyData.canLay0]⟩
  | _, _, .int i, _ => ⟨.int i, by simp only [toP, PyData.canLay0]⟩
  | _, _, .str s h, _ => ⟨.str s, by simp only [toP, PyData.canLay0]; exact h.2⟩
  | _, _, .ty n, h => by simp [okD] at h
  | _, _, .tup h r, z => by
    have q := IsL.dp r (by simpa only [okD] using z)
    exact ⟨.tup h q.1, by simp only [toP, PyData.canLay0]; exact q.2⟩
  | _, _, .lst h n r, z => by
    have q := IsL.dp r (by simpa only [okD] using z)
    exact ⟨.lst (SqL.of h) q.1, by simp only [toP, PyData.canLay0]; exact q.2⟩
  | _, _, .dct h n r1 r2, z => by simp [okD] at z
  | _, _, .bag h o, z => by simp [okD] at z
theorem IsL.dp : ∀ {vs : List V} {ds : List D}, IsL B O K H vs ds → okDs ds = true → DpAll K H vs (toPs ds) ∧ PyData.canLayAll0 (toPs ds) = true
  | _, _, .nil, _ => ⟨.nil, by simp only [toPs, PyData.canLayAll0]⟩
  | _, _, .cons h r, z => by
    obtain ⟨z1, z2⟩ := Bool.and_eq_true_iff.mp (by simpa only [okDs] using z)
    have q1 := Is.dp h z1
    have q2 := IsL.dp r z2
    exact ⟨.cons q1.1 q2.1, by simp only [toPs, PyData.canLayAll0, q1.2, q2.2, Bool.and_self]⟩
end
end
section
variable {X : Cx}
def rEqM (K : PySem.W.Frag) : R2 := fun x y H Q => ∃ d e, Dp K H x d ∧ Dp K H y e ∧ d.canLay0 = true ∧ e.canLay0 = true ∧ min d.depth e.depth ≤ 64 ∧ Q (.bl (PyData.eqv d e)) H
def rNeM (K : PySem.W.Frag) : R2 := fun x y H Q => ∃ d e, Dp K H x d ∧ Dp K H y e ∧ d.canLay0 = true ∧ e.canLay0 = true ∧ min d.depth e.depth ≤ 64 ∧ Q (.bl (!PyData.eqv d e)) H
theorem op_eqM (hu : X.A.units + 64 < cLine) : OpR X (compareOp .Eq) (rEqM X.K) := by
  rintro pins s σ H x y v u Q I rx ry ⟨d, e, hd, he, sd, se, hm, q⟩
  obtain ⟨as, r1⟩ := Dp.reads I d x v hd rx
  obtain ⟨bs, r2⟩ := Dp.reads I e y u he ry
  exact SeqAt.compareEq_reads r1 r2 sd se (by omega) ⟨.bl _, H, I, rfl, q⟩
theorem op_neM (hu : X.A.units + 64 < cLine) : OpR X (compareOp .NotEq) (rNeM X.K) := by
  rintro pins s σ H x y v u Q I rx ry ⟨d, e, hd, he, sd, se, hm, q⟩
  obtain ⟨as, r1⟩ := Dp.reads I d x v hd rx
  obtain ⟨bs, r2⟩ := Dp.reads I e y u he ry
  exact SeqAt.compareNe_reads r1 r2 sd se (by omega) ⟨.bl _, H, I, rfl, q⟩
end
/-- an operation of Python and the one on data -/
def OpD (X : Cx) (B : Bg) (f : Value → Value → Sem Value) (r' : D2) : Prop := ∃ r, OpR X f r ∧ OpS B X.K r r'
section
variable {X : Cx} {B : Bg}
def rEq : D2 := fun x y Q => okD x = true ∧ okD y = true ∧ min (depD x) (depD y) ≤ 64 ∧ Q (.bl (eqD x y))
def rNe : D2 := fun x y Q => okD x = true ∧ okD y = true ∧ min (depD x) (depD y) ≤ 64 ∧ Q (.bl (!eqD x y))
theorem oEq (hu : X.A.units + 64 < cLine) : OpD X B (compareOp .Eq) rEq := ⟨_, op_eqM hu, fun O H x y dx dy Qd Q ob oa ix iy ⟨kx, ky, hm, q⟩ k =>
  ⟨toP dx, toP dy, (ix.dp kx).1, (iy.dp ky).1, (ix.dp kx).2, (iy.dp ky).2, hm, k _ q _ H (Ex.refl _ _) (.bl _)⟩⟩
theorem oNe (hu : X.A.units + 64 < cLine) : OpD X B (compareOp .NotEq) rNe := ⟨_, op_neM hu, fun O H x y dx dy Qd Q ob oa ix iy ⟨kx, ky, hm, q⟩ k =>
  ⟨toP dx, toP dy, (ix.dp kx).1, (iy.dp ky).1, (ix.dp kx).2, (iy.dp ky).2, hm, k _ q _ H (Ex.refl _ _) (.bl _)⟩⟩
/-- two ints -/
def rInts (C : Int → Int → Prop) (g : Int → Int → D) : D2 := fun x y Q => ∃ i j, x = .int i ∧ y = .int j ∧ C i j ∧ Q (g i j)
def CT : Int → Int → Prop := fun _ _ => True
theorem oInts {f : Value → Value → Sem Value} {C : Int → Int → Prop} {g : Int → Int → V} {g' : Int → Int → D} (h : OpR X f (rI C g)) (hg : ∀ i j B O K H, Is B O K H (g i j) (g' i j)) : OpD X B f (rInts C g') := ⟨_, h, fun O H x y dx dy Qd Q ob oa ix iy ⟨i, j, ex, ey, hc, q⟩ k => by
  subst ex ey
  cases ix
  cases iy
  exact ⟨i, j, rfl, rfl, hc, k _ q _ H (Ex.refl _ _) (hg i j _ _ _ _)⟩⟩
theorem oInts0 {f : Value → Value → Sem Value} {g : Int → Int → V} {g' : Int → Int → D} (h : OpR X f (rI0 g)) (hg : ∀ i j B O K H, Is B O K H (g i j) (g' i j)) : OpD X B f (rInts CT g') := ⟨_, h, fun O H x y dx dy Qd Q ob oa ix iy ⟨i, j, ex, ey, hc, q⟩ k => by
  subst ex ey
  cases ix
  cases iy
  exact ⟨i, j, rfl, rfl, k _ q _ H (Ex.refl _ _) (hg i j _ _ _ _)⟩⟩
theorem oSub : OpD X B (binaryOp .Sub) (rInts CT fun i j => .int (i - j)) := oInts0 op_sub fun _ _ _ _ _ _ => .int _
theorem oMul : OpD X B (binaryOp .Mult) (rInts CMul fun i j => .int (i * j)) := oInts op_mul fun _ _ _ _ _ _ => .int _
theorem oMod : OpD X B (binaryOp .Mod) (rInts (fun _ j => 0 < j) fun i j => .int (i % j)) := oInts op_mod fun _ _ _ _ _ _ => .int _
theorem oFd : OpD X B (binaryOp .FloorDiv) (rInts CDivW fun i j => .int (i / j)) := oInts op_fdivW fun _ _ _ _ _ _ => .int _
theorem oPow : OpD X B (binaryOp .Pow) (rInts CPow fun i j => .int (i ^ j.toNat)) := oInts op_pow fun _ _ _ _ _ _ => .int _
theorem oLt : OpD X B (compareOp .Lt) (rInts CT fun i j => .bl (decide (i < j))) := oInts0 op_lt fun _ _ _ _ _ _ => .bl _
theorem oLe : OpD X B (compareOp .LtE) (rInts CT fun i j => .bl (decide (i ≤ j))) := oInts0 op_le fun _ _ _ _ _ _ => .bl _
theorem oGt : OpD X B (compareOp .Gt) (rInts CT fun i j => .bl (decide (j < i))) := oInts0 op_gt fun _ _ _ _ _ _ => .bl _
theorem oGe : OpD X B (compareOp .GtE) (rInts CT fun i j => .bl (decide (j ≤ i))) := oInts0 op_ge fun _ _ _ _ _ _ => .bl _
/-- a + b: ints, texts, tuples, lists -/
def rAdd : D2 := fun x y Q => match x, y with
  | .int i, .int j => Q (.int (i + j))
  | .str s, .str t => okS (s ++ t) ∧ Q (.str (s ++ t))
  | .tup xs, .tup ys => xs.length + ys.length ≤ sizeLine ∧ Q (.tup (xs ++ ys))
  | .lst xs, .lst ys => xs.length + ys.length ≤ sizeLine ∧ Q (.lst (xs ++ ys))
  | _, _ => False
theorem str_len (s t : Str) : (s ++ t).length = s.length + t.length := by
  show (Str.append s t).cps.size = _
  simp [Str.append, Str.length]
theorem oAdd : OpD X B (binaryOp .Add) rAdd := by
  refine ⟨_, OpR.or op_add (OpR.or op_add_str (OpR.or op_catA op_cat)), fun O H x y dx dy Qd Q ob oa ix iy h k => ?_⟩
  cases ix with
  | int i =>
    cases iy with
    | int j => exact .inl ⟨i, j, rfl, rfl, k _ h _ H (Ex.refl _ _) (.int _)⟩
    | _ => exact h.elim
  | str s hs =>
    cases iy with
    | str t ht => exact .inr (.inl ⟨s, t, rfl, rfl, by rw [← str_len]; exact h.1.1, k _ h.2 _ H (Ex.refl _ _) (.str _ h.1)⟩)
    | _ => exact h.elim
  | tup ha ra =>
    cases iy with
    | tup hb rb =>
      rename_i a xs ds b ys es
      obtain ⟨hz, q⟩ := h
      refine .inr (.inr (.inl ⟨a, b, xs, ys, rfl, rfl, ha, hb, by rw [ra.length, rb.length]; exact hz, fun e => ?_, fun e1 e2 => ?_, fun e1 e2 p hp => ?_⟩))
      · subst e
        cases ra
        exact k _ q _ H (Ex.refl _ _) (.tup hb rb)
      · subst e2
        cases rb
        exact k _ (by rw [List.append_nil] at q; exact q) _ H (Ex.refl _ _) (.tup ha ra)
      · exact k _ q _ _ (Ex.new hp) (.tup (SqT.of upd_same) ((ra.append rb).ex (Ex.new hp) ob))
    | _ => exact h.elim
  | lst ha na ra =>
    cases iy with
    | lst hb nb rb =>
      rename_i a xs ds b ys es
      obtain ⟨hz, q⟩ := h
      refine .inr (.inr (.inr ⟨a, b, xs, ys, rfl, rfl, ha, hb, by rw [ra.length, rb.length]; exact hz, fun p hp => ?_⟩))
      exact k _ q _ _ (Ex.new hp) (.lst upd_same (fun z => oa p z hp) ((ra.append rb).ex (Ex.new hp) ob))
    | _ => exact h.elim
  | _ => exact h.elim
/-- x is None -/
def isNoneD : D → Bool
  | .non => true
  | _ => false
def rIs : D2 := fun x y Q => y = .non ∧ Q (.bl (isNoneD x))
def rIsNot : D2 := fun x y Q => y = .non ∧ Q (.bl (!isNoneD x))
theorem is_none {O : Addr → Prop} {K : PySem.W.Frag} {H : Hp} {x : V} {d : D} (h : Is B O K H x d) : decide (x = .non) = isNoneD d := by
  cases h <;> rfl
theorem oIs : OpD X B (compareOp .Is) rIs := ⟨_, op_isN, fun O H x y dx dy Qd Q ob oa ix iy ⟨e, q⟩ k => by
  subst e
  cases iy
  exact ⟨rfl, k _ (by rw [is_none ix]; exact q) _ H (Ex.refl _ _) (.bl _)⟩⟩
theorem oIsNot : OpD X B (compareOp .IsNot) rIsNot := ⟨_, op_notN, fun O H x y dx dy Qd Q ob oa ix iy ⟨e, q⟩ k => by
  subst e
  cases iy
  exact ⟨rfl, k _ (by rw [is_none ix]; exact q) _ H (Ex.refl _ _) (.bl _)⟩⟩
/-! ### in -/
def flatD : D → Bool
  | .non => true
  | .bl _ => true
  | .int _ => true
  | .str _ => true
  | _ => false
theorem flat_v {O : Addr → Prop} {K : PySem.W.Frag} {H : Hp} {x : V} {d : D} (h : Is B O K H x d) (f : flatD d = true) : flatV x = true := by
  cases h <;> first | rfl | cases f
theorem eq_flat {O : Addr → Prop} {K : PySem.W.Frag} {H : Hp} {x y : V} {d e : D} (h : Is B O K H x d) (g : Is B O K H y e) (f1 : flatD d = true) (f2 : flatD e = true) : eqV x y = eqD d e := by
  cases h <;> cases g <;> first | rfl | (cases f1; done) | (cases f2; done)
theorem flat_vs {O : Addr → Prop} {K : PySem.W.Frag} {H : Hp} : ∀ {xs : List V} {ds : List D}, IsL B O K H xs ds → ds.all flatD = true → xs.all flatV = true
  | _, _, .nil, _ => rfl
  | _, _, .cons h r, f => by
    rw [List.all_cons] at f ⊢
    obtain ⟨f1, f2⟩ := Bool.and_eq_true_iff.mp f
    rw [flat_v h f1, flat_vs r f2] <;> rfl
theorem in_flat {O : Addr → Prop} {K : PySem.W.Frag} {H : Hp} {y : V} {e : D} (g : Is B O K H y e) (f2 : flatD e = true) : ∀ {xs : List V} {ds : List D}, IsL B O K H xs ds → ds.all flatD = true → inV y xs = ds.any fun z => eqD z e
  | _, _, .nil, _ => rfl
  | _, _, .cons h r, f => by
    rw [List.all_cons] at f
    obtain ⟨f1, f3⟩ := Bool.and_eq_true_iff.mp f
    have q := in_flat g f2 r f3
    unfold inV at q ⊢
    rw [List.any_cons, List.any_cons, q, eq_flat h g f1 f2]
def deepIn (x : D) (ds : List D) : Prop := okD x = true ∧ okDs ds = true ∧ depD x ≤ 64 ∧ depD (.lst ds) ≤ 64
/-- a dict's entry -/
def lookD (kvs : List (D × D)) (k : D) : Option D := (kvs.find? fun p => eqD p.1 k).map (·.2)
def keyD : D → Option Key
  | .str s => some (.inr s)
  | .int i => some (.inl i)
  | _ => none
def rIn (neg : Bool) : D2 := fun x y Q => match y with
  | .lst ds => ((flatD x = true ∧ ds.all flatD = true) ∨ deepIn x ds) ∧ Q (.bl (neg ^^ ds.any fun z => eqD z x))
  | .tup ds => (flatD x = true ∧ ds.all flatD = true) ∧ Q (.bl (neg ^^ ds.any fun z => eqD z x))
  | .str z => ∃ c, x = .str ⟨#[c]⟩ ∧ Q (.bl (neg ^^ decide (c ∈ z.cps.toList)))
  | .dct kvs => (keyD x).isSome = true ∧ Q (.bl (neg ^^ (lookD kvs x).isSome))
  | _ => False
theorem op_inDict (hu : X.A.units + 1 < cLine) : OpR X (compareOp .In) (fun y x H Q => ∃ a o, x = .ref a ∧ DGet H a y o ∧ Q (.bl o.isSome) H) := by
  rintro pins s σ H y x u v Q I ry rx ⟨a, o, rfl, g, q⟩
  cases rx
  exact d_in hu I g ry fun s' I' => ⟨.bl _, H, I', rfl, q⟩
theorem op_notInDict (hu : X.A.units + 1 < cLine) : OpR X (compareOp .NotIn) (fun y x H Q => ∃ a o, x = .ref a ∧ DGet H a y o ∧ Q (.bl (!o.isSome)) H) := by
  rintro pins s σ H y x u v Q I ry rx ⟨a, o, rfl, g, q⟩
  cases rx
  exact d_notIn hu I g ry fun s' I' => ⟨.bl _, H, I', rfl, q⟩
theorem key_of {O : Addr → Prop} {K : PySem.W.Frag} {H : Hp} {x : V} {d : D} (h : Is B O K H x d) (f : (keyD d).isSome = true) : ∃ k, keyD d = some k ∧ x = kV k := by
  cases h <;> first | exact ⟨_, rfl, rfl⟩ | cases f
theorem key_eq {O : Addr → Prop} {K : PySem.W.Frag} {H : Hp} {k j : Key} {d e : D} (h : Is B O K H (kV k) d) (f : keyD e = some j) : decide (k = j) = eqD d e := by
  cases k with
  | inl i =>
    cases h
    cases e with
    | int i' =>
      cases f
      rw [key_ll]
      rfl
    | str s =>
      cases f
      rw [key_lr]
      rfl
    | _ => cases f
  | inr s =>
    cases h
    cases e with
    | int i' =>
      cases f
      rw [key_rl]
      rfl
    | str s' =>
      cases f
      rw [key_rr]
      show decide (s = s') = (s == s')
      by_cases z : s = s'
      · subst z; simp
      · rw [decide_eq_false z]; exact (beq_eq_false_iff_ne.mpr z).symm
    | _ => cases f
theorem look_val {O : Addr → Prop} {K : PySem.W.Frag} {H : Hp} {e : D} {j : Key} (f : keyD e = some j) : ∀ {kvs : List (Key × V)} {ks vs : List D}, IsL B O K H (kvs.map fun p => kV p.1) ks → IsL B O K H (kvs.map fun p => p.2) vs →
    (valV kvs j = none ∧ lookD (ks.zip vs) e = none) ∨ ∃ v d, valV kvs j = some v ∧ lookD (ks.zip vs) e = some d ∧ Is B O K H v d
  | [], _, _, .nil, .nil => .inl ⟨rfl, rfl⟩
  | (k, v) :: r, _, _, .cons h1 r1, .cons h2 r2 => by
    rename_i d ds d' ds'
    have q := key_eq h1 f
    have ih := look_val f r1 r2
    unfold valV lookD at ih ⊢
    rw [List.zip_cons_cons, List.find?_cons, List.find?_cons]
    cases z : eqD d e with
    | true =>
      have z' : decide (k = j) = true := q.trans z
      rw [show (decide ((k, v).1 = j)) = true from z']
      exact .inr ⟨v, d', rfl, rfl, h2⟩
    | false =>
      have z' : decide (k = j) = false := q.trans z
      rw [show (decide ((k, v).1 = j)) = false from z']
      exact ih
theorem xor_f (b : Bool) : (false ^^ b) = b := by cases b <;> rfl
theorem xor_t (b : Bool) : (true ^^ b) = !b := by cases b <;> rfl
theorem any_toP : ∀ (ds : List D) (x : D), (toPs ds).any (fun z => PyData.eqv z (toP x)) = ds.any fun z => eqD z x
  | [], _ => by simp only [toPs, List.any_nil]
  | d :: r, x => by
    simp only [toPs, List.any_cons, any_toP r x]
    rfl
theorem deep_ok {O : Addr → Prop} {K : PySem.W.Frag} {H : Hp} {x : V} {d : D} {a : Addr} {xs : List V} {ds : List D} (h : Is B O K H x d) (ha : H a = some (.lst xs)) (r : IsL B O K H xs ds) (q : deepIn d ds) :
    Dp K H x (toP d) ∧ Dp K H (.ref a) (.list (toPs ds)) ∧ SeqAt.shaped (toP d) = true ∧ SeqAt.shaped (.list (toPs ds)) = true := by
  obtain ⟨k1, k2, k3, k4⟩ := q
  have z1 := h.dp k1
  have z2 := r.dp k2
  refine ⟨z1.1, .lst (SqL.of ha) z2.1, ?_, ?_⟩
  · unfold SeqAt.shaped
    rw [z1.2, Bool.true_and]
    exact decide_eq_true k3
  · unfold SeqAt.shaped
    have e : PyData.canLay0 (.list (toPs ds)) = true := by simp only [PyData.canLay0]; exact z2.2
    rw [e, Bool.true_and]
    refine decide_eq_true ?_
    have k5 : (toP (.lst ds)).depth ≤ 64 := k4
    simp only [toP] at k5
    exact k5
theorem oIn (hu : X.A.units + 65 < cLine) : OpD X B (compareOp .In) (rIn false) := by
  refine ⟨_, OpR.or op_in_seq (OpR.or (op_inD hu) (OpR.or op_in_sign (op_inDict (by omega)))), fun O H x y dx dy Qd Q ob oa ix iy h k => ?_⟩
  cases iy with
  | lst ha na ra =>
    rename_i a xs ds
    obtain ⟨hc, q⟩ := h
    rcases hc with ⟨f1, f2⟩ | hc
    · refine .inl ⟨a, xs, rfl, .inl (SqL.of ha), flat_v ix f1, flat_vs ra f2, ?_⟩
      rw [in_flat ix f1 ra f2, if_neg Bool.false_ne_true]
      exact k _ (by rw [xor_f] at q; exact q) _ H (Ex.refl _ _) (.bl _)
    · obtain ⟨z1, z2, z3, z4⟩ := deep_ok ix ha ra hc
      refine .inr (.inl ⟨_, _, z1, z2, z3, z4, ?_⟩)
      rw [any_toP]
      exact k _ (by rw [xor_f] at q; exact q) _ H (Ex.refl _ _) (.bl _)
  | tup ha ra =>
    rename_i a xs ds
    obtain ⟨⟨f1, f2⟩, q⟩ := h
    refine .inl ⟨a, xs, rfl, .inr ha, flat_v ix f1, flat_vs ra f2, ?_⟩
    rw [in_flat ix f1 ra f2, if_neg Bool.false_ne_true]
    exact k _ (by rw [xor_f] at q; exact q) _ H (Ex.refl _ _) (.bl _)
  | str z hz =>
    obtain ⟨c, e, q⟩ := h
    subst e
    cases ix
    exact .inr (.inr (.inl ⟨c, z, rfl, rfl, k _ (by rw [xor_f] at q; exact q) _ H (Ex.refl _ _) (.bl _)⟩))
  | dct ha na r1 r2 =>
    rename_i a kvs ks vs
    obtain ⟨f, q⟩ := h
    obtain ⟨j, hj, rfl⟩ := key_of ix f
    refine .inr (.inr (.inr ⟨a, valV kvs j, rfl, DGet.k ha, ?_⟩))
    rw [xor_f] at q
    rcases look_val hj r1 r2 with ⟨e1, e2⟩ | ⟨v, d, e1, e2, _⟩
    · rw [e2] at q
      rw [e1]
      exact k _ q _ H (Ex.refl _ _) (.bl _)
    · rw [e2] at q
      rw [e1]
      exact k _ q _ H (Ex.refl _ _) (.bl _)
  | _ => exact h.elim
theorem oNotIn (hu : X.A.units + 65 < cLine) : OpD X B (compareOp .NotIn) (rIn true) := by
  refine ⟨_, OpR.or op_notIn_seq (OpR.or (op_notInD hu) (OpR.or op_notIn_sign (op_notInDict (by omega)))), fun O H x y dx dy Qd Q ob oa ix iy h k => ?_⟩
  cases iy with
  | lst ha na ra =>
    rename_i a xs ds
    obtain ⟨hc, q⟩ := h
    rcases hc with ⟨f1, f2⟩ | hc
    · refine .inl ⟨a, xs, rfl, .inl (SqL.of ha), flat_v ix f1, flat_vs ra f2, ?_⟩
      rw [in_flat ix f1 ra f2, if_pos rfl]
      exact k _ (by rw [xor_t] at q; exact q) _ H (Ex.refl _ _) (.bl _)
    · obtain ⟨z1, z2, z3, z4⟩ := deep_ok ix ha ra hc
      refine .inr (.inl ⟨_, _, z1, z2, z3, z4, ?_⟩)
      rw [any_toP]
      exact k _ (by rw [xor_t] at q; exact q) _ H (Ex.refl _ _) (.bl _)
  | tup ha ra =>
    rename_i a xs ds
    obtain ⟨⟨f1, f2⟩, q⟩ := h
    refine .inl ⟨a, xs, rfl, .inr ha, flat_v ix f1, flat_vs ra f2, ?_⟩
    rw [in_flat ix f1 ra f2, if_pos rfl]
    exact k _ (by rw [xor_t] at q; exact q) _ H (Ex.refl _ _) (.bl _)
  | str z hz =>
    obtain ⟨c, e, q⟩ := h
    subst e
    cases ix
    exact .inr (.inr (.inl ⟨c, z, rfl, rfl, k _ (by rw [xor_t] at q; exact q) _ H (Ex.refl _ _) (.bl _)⟩))
  | dct ha na r1 r2 =>
    rename_i a kvs ks vs
    obtain ⟨f, q⟩ := h
    obtain ⟨j, hj, rfl⟩ := key_of ix f
    refine .inr (.inr (.inr ⟨a, valV kvs j, rfl, DGet.k ha, ?_⟩))
    rw [xor_t] at q
    rcases look_val hj r1 r2 with ⟨e1, e2⟩ | ⟨v, d, e1, e2, _⟩
    · rw [e2] at q
      rw [e1]
      exact k _ q _ H (Ex.refl _ _) (.bl _)
    · rw [e2] at q
      rw [e1]
      exact k _ q _ H (Ex.refl _ _) (.bl _)
  | _ => exact h.elim
end
end HD
/-! HD4: subscripts, slices, built-in functions on data. -/
namespace HD
open PySem L2
section
variable {X : Cx} {F : Fx} {Cl : Str → Addr} {W : WX} {B : Bg}
theorem xOpD {a b : Expr} {op : Operator} {pos : Pos} {r' : D2} {da db : DE} (ho : OpD X F.B (binaryOp op) r') (ha : PE X a (upE F Cl W da)) (hb : PE X b (upE F Cl W db)) (hK : X.K = F.K := by rfl) : PE X (.BinOp a op b pos) (upE F Cl W (dOp r' da db)) := by
  obtain ⟨r, h1, h2⟩ := ho
  exact xOp h1 (by rw [← hK]; exact h2) ha hb
theorem xCmpD {a b : Expr} {op : CmpOp} {pos : Pos} {r' : D2} {da db : DE} (ho : OpD X F.B (compareOp op) r') (ha : PE X a (upE F Cl W da)) (hb : PE X b (upE F Cl W db)) (hm : behindInMarks op b = false := by rfl) (hK : X.K = F.K := by rfl) : PE X (.Compare a [op] [b] pos) (upE F Cl W (dOp r' da db)) := by
  obtain ⟨r, h1, h2⟩ := ho
  exact xCmp h1 (by rw [← hK]; exact h2) ha hb hm
theorem yCmpD {a b : Expr} {op : CmpOp} {pos : Pos} {r' : D2} {da db : DE} (ho : OpD X F.B (compareOp op) r') (ha : PE X a (upE F Cl W da)) (hb : PE X b (upE F Cl W db)) (hm : behindInMarks op b = false := by rfl) (hK : X.K = F.K := by rfl) : PT X (.Compare a [op] [b] pos) (upT F Cl W (dTest (dOp r' da db))) := by
  obtain ⟨r, h1, h2⟩ := ho
  exact yCmp h1 (by rw [← hK]; exact h2) ha hb hm
theorem xChainD {a b c : Expr} {op op' : CmpOp} {pos : Pos} {r' q' : D2} {da db dc : DE} (ho : OpD X F.B (compareOp op) r') (ho' : OpD X F.B (compareOp op') q') (ha : PE X a (upE F Cl W da)) (hb : PE X b (upE F Cl W db)) (hc : PE X c (upE F Cl W dc))
    (hm : lastMarks [op, op'] [b, c] = false := by rfl) (hK : X.K = F.K := by rfl) : PE X (.Compare a [op, op'] [b, c] pos) (upE F Cl W (dChain r' q' da db dc)) := by
  obtain ⟨r, h1, h2⟩ := ho
  obtain ⟨q, h3, h4⟩ := ho'
  exact xChain h1 (by rw [← hK]; exact h2) h3 (by rw [← hK]; exact h4) ha hb hc hm
theorem yChainD {a b c : Expr} {op op' : CmpOp} {pos : Pos} {r' q' : D2} {da db dc : DE} (ho : OpD X F.B (compareOp op) r') (ho' : OpD X F.B (compareOp op') q') (ha : PE X a (upE F Cl W da)) (hb : PE X b (upE F Cl W db)) (hc : PE X c (upE F Cl W dc))
    (hm : lastMarks [op, op'] [b, c] = false := by rfl) (hK : X.K = F.K := by rfl) : PT X (.Compare a [op, op'] [b, c] pos) (upT F Cl W (dTest (dChain r' q' da db dc))) := by
  obtain ⟨r, h1, h2⟩ := ho
  obtain ⟨q, h3, h4⟩ := ho'
  exact yChain h1 (by rw [← hK]; exact h2) h3 (by rw [← hK]; exact h4) ha hb hc hm
/-! ### a unary minus -/
def dNeg (da : DE) : DE := fun ρ Xd Q => da ρ Xd fun x => ∃ i, x = .int i ∧ Q (.int (-i))
theorem xNeg {a : Expr} {pos : Pos} {da : DE} (ha : PE X a (upE F Cl W da)) : PE X (.UnaryOp .USub a pos) (upE F Cl W (dNeg da)) :=
  pe_imp (pe_un un_neg ha) fun σ H Q ⟨ρ, Xd, Qd, env, h1, xo, k⟩ => ⟨ρ, Xd, _, env, h1, xo, fun d ⟨i, hd, q⟩ v H1 e1 i1 => by
    subst hd
    cases i1
    exact ⟨i, rfl, k _ q _ H1 e1 (.int _)⟩⟩
/-! ### subscripts -/
theorem okS_sub {s t : Str} (h : okS s) (hl : t.length ≤ s.length) (hm : ∀ c ∈ t.cps.toList, c ∈ s.cps.toList) : okS t := by
  refine ⟨Nat.le_trans hl h.1, ?_⟩
  have h2 := h.2
  unfold PyData.strOk at h2 ⊢
  rw [← Array.all_toList] at h2 ⊢
  exact List.all_eq_true.mpr fun c hc => List.all_eq_true.mp h2 c (hm c hc)
theorem atI_mem {α : Type} {xs : List α} {i : Int} {x : α} (h : atI xs i = some x) : x ∈ xs := by
  unfold atI at h
  cases q : ixN xs.length i with
  | none => rw [q] at h; cases h
  | some j => rw [q] at h; exact List.mem_of_getElem? h
theorem okS_one {s : Str} {c : Nat} (h : okS s) (hc : c ∈ s.cps.toList) : okS ⟨#[c]⟩ := by
  refine okS_sub h ?_ fun d hd => ?_
  · show 1 ≤ s.cps.size
    have z := List.length_pos_of_mem hc
    have z2 : s.cps.toList.length = s.cps.size := by simp
    omega
  · have e : d = c := by simpa using hd
    rw [e]; exact hc
theorem atI_is {O : Addr → Prop} {K : PySem.W.Frag} {H : Hp} {xs : List V} {ds : List D} {i : Int} {d : D} (r : IsL B O K H xs ds) (h : atI ds i = some d) : ∃ v, atI xs i = some v ∧ Is B O K H v d := by
  unfold atI at h ⊢
  rw [r.length]
  cases q : ixN ds.length i with
  | none => rw [q] at h; cases h
  | some j =>
    rw [q] at h
    exact r.get h
def rIx : D2 := fun x y Q => match x with
  | .tup ds => ∃ i d, y = .int i ∧ atI ds i = some d ∧ Q d
  | .lst ds => ∃ i d, y = .int i ∧ atI ds i = some d ∧ Q d
  | .str s => ∃ i c, y = .int i ∧ atI s.cps.toList i = some c ∧ Q (.str ⟨#[c]⟩)
  | .dct kvs => (keyD y).isSome = true ∧ ∃ d, lookD kvs y = some d ∧ Q d
  | _ => False
theorem ix_dict (hu : X.A.units + 1 < cLine) : IxR X (fun x y H Q => ∃ a v, x = .ref a ∧ DGet H a y (some v) ∧ Q v H) := by
  rintro value slice pins s σ H x y v u Q I rx ry ⟨a, w, rfl, g, q⟩ hs
  cases rx
  exact PyProof.Rows.tail_any (dict_typeIs I g) PySem.F.slot_dict_getitem.lookup (d_getItem hu I g ry fun w' s' I' r' => ⟨w, H, I', r', q⟩) hs
theorem ix_all (hu : X.A.units + 1 < cLine) : ∃ r, IxR X r ∧ OpS B X.K r rIx := by
  refine ⟨_, IxR.or ix_list (IxR.or ix_tup (IxR.or ix_str (ix_dict hu))), fun O H x y dx dy Qd Q ob oa ix iy h k => ?_⟩
  cases ix with
  | lst ha na ra =>
    rename_i a xs ds
    obtain ⟨i, d, e, hi, q⟩ := h
    subst e
    cases iy
    obtain ⟨v, hv, iv⟩ := atI_is ra hi
    exact .inl ⟨a, xs, i, v, rfl, rfl, SqL.of ha, hv, k _ q _ H (Ex.refl _ _) iv⟩
  | tup ha ra =>
    rename_i a xs ds
    obtain ⟨i, d, e, hi, q⟩ := h
    subst e
    cases iy
    obtain ⟨v, hv, iv⟩ := atI_is ra hi
    exact .inr (.inl ⟨a, xs, i, v, rfl, rfl, ha, hv, k _ q _ H (Ex.refl _ _) iv⟩)
  | str z hz =>
    obtain ⟨i, c, e, hi, q⟩ := h
    subst e
    cases iy
    exact .inr (.inr (.inl ⟨z, i, c, rfl, rfl, hz.1, hi, k _ q _ H (Ex.refl _ _) (.str _ (okS_one hz (atI_mem hi)))⟩))
  | dct ha na r1 r2 =>
    rename_i a kvs ks vs
    obtain ⟨f, d, hd, q⟩ := h
    obtain ⟨j, hj, rfl⟩ := key_of iy f
    rcases look_val hj r1 r2 with ⟨e1, e2⟩ | ⟨v, d', e1, e2, iv⟩
    · rw [e2] at hd; cases hd
    · rw [e2] at hd; cases hd
      refine .inr (.inr (.inr ⟨a, v, rfl, ?_, k _ q _ H (Ex.refl _ _) iv⟩))
      rw [← e1]
      exact DGet.k ha
  | _ => exact h.elim
theorem xIx {a b : Expr} {pos : Pos} {da db : DE} (hu : X.A.units + 65 < cLine) (ha : PE X a (upE F Cl W da)) (hb : PE X b (upE F Cl W db)) (hs : PlainIx b := by exact fun _ _ => rfl) (hK : X.K = F.K := by rfl) : PE X (.Subscript a b pos) (upE F Cl W (dOp rIx da db)) := by
  obtain ⟨r, h1, h2⟩ := ix_all (X := X) (B := F.B) (by omega)
  exact pe_imp (pe_ix h1 ha hb hs) (up_op (by rw [← hK]; exact h2))
/-! ### slices -/
abbrev DO := Rho → (Err → Prop) → (Option Int → Prop) → Prop
def upO (F : Fx) (Cl : Str → Addr) (W : WX) (d : DO) : TO := fun σ H Q => ∃ ρ Xd Qd, EnvOk F H σ ρ ∧ d ρ Xd Qd ∧ XO F Cl W σ H ρ Xd ∧ ∀ o, Qd o → ∀ H', Ex F.B H H' → Q o H'
def dNoPart : DO := fun _ _ Q => Q none
def dPart (de : DE) : DO := fun ρ Xd Q => de ρ Xd fun d => ∃ i, d = .int i ∧ Q (some i)
theorem po_imp {e : Option Expr} {t t' : TO} (h : PO X e t) (q : ∀ σ H Q, t' σ H Q → t σ H Q) : PO X e t' := ⟨fun pins s σ H Q I z => h.run pins s σ H Q I (q σ H Q z)⟩
theorem oNone : PO X none (upO F Cl W dNoPart) := po_imp po_none fun σ H Q ⟨ρ, Xd, Qd, env, h1, xo, k⟩ => k _ h1 H (Ex.refl _ _)
theorem oSome {e : Expr} {de : DE} (h : PE X e (upE F Cl W de)) : PO X (some e) (upO F Cl W (dPart de)) := po_imp (po_some h) fun σ H Q ⟨ρ, Xd, Qd, env, h1, xo, k⟩ => ⟨ρ, Xd, _, env, h1, xo, fun d ⟨i, hd, q⟩ v H1 e1 i1 => by
  subst hd
  cases i1
  exact ⟨i, rfl, k _ q H1 e1⟩⟩
def cutL {α : Type} (xs : List α) (lo hi : Option Int) : List α := (xs.drop (HT.sIx xs.length 0 lo)).take (HT.sIx xs.length xs.length hi - HT.sIx xs.length 0 lo)
def rSl (x : D) (lo hi : Option Int) (Q : D → Prop) : Prop := match x with
  | .tup ds => Q (.tup (cutL ds lo hi))
  | .lst ds => Q (.lst (cutL ds lo hi))
  | .str s => Q (.str (cutS s lo hi))
  | _ => False
def dSl (de : DE) (lo hi : DO) : DE := fun ρ Xd Q => de ρ Xd fun x => lo ρ Xd fun l => hi ρ Xd fun h => rSl x l h Q
theorem cut_is {O : Addr → Prop} {K : PySem.W.Frag} {H : Hp} {xs : List V} {ds : List D} (r : IsL B O K H xs ds) (lo hi : Option Int) : IsL B O K H (cutV xs lo hi) (cutL ds lo hi) := by
  unfold cutV cutL
  rw [r.length]
  exact (r.drop _).take _
theorem okS_cut {s : Str} (h : okS s) (lo hi : Option Int) : okS (cutS s lo hi) := okS_sub h (cutS_length s lo hi) fun c hc => by
  have e : c ∈ (s.cps.toList.drop (HT.sIx s.length 0 lo)).take (HT.sIx s.length s.length hi - HT.sIx s.length 0 lo) := by
    unfold cutS at hc
    simpa using hc
  exact List.mem_of_mem_drop (List.mem_of_mem_take e)
theorem cut_all {α : Type} {xs : List α} {lo hi : Option Int} (h : HT.sIx xs.length 0 lo = 0 ∧ HT.sIx xs.length xs.length hi = xs.length) : cutL xs lo hi = xs := by
  unfold cutL
  rw [h.1, h.2, List.drop_zero, Nat.sub_zero, List.take_length]
theorem xSl {e : Expr} {lo hi : Option Expr} {p2 pos : Pos} {de : DE} {dl dh : DO} (he : PE X e (upE F Cl W de)) (hl : PO X lo (upO F Cl W dl)) (hh : PO X hi (upO F Cl W dh)) (hK : X.K = F.K := by rfl) : PE X (.Subscript e (.Slice lo hi none p2) pos) (upE F Cl W (dSl de dl dh)) := by
  refine pe_imp (pe_slice (SlR.or sl_list (SlR.or sl_tupA sl_str)) he hl hh) fun σ H Q ⟨ρ, Xd, Qd, env, h1, xo, k⟩ => ?_
  refine ⟨ρ, Xd, _, env, h1, xo, fun d hd v H1 e1 i1 => ⟨ρ, Xd, _, env.ex' e1, hd, xo.ex e1, fun l hl H2 e2 => ⟨ρ, Xd, _, (env.ex' e1).ex' e2, hl, (xo.ex e1).ex e2, fun h hh H3 e3 => ?_⟩⟩⟩
  have e13 := (e1.trans e2).trans e3
  have env3 := env.ex' e13
  have i3 := (i1.ex e2 env.osb).ex e3 env.osb
  cases i3 with
  | lst ha na ra =>
    rename_i a xs ds
    refine .inl ⟨a, xs, rfl, SqL.of ha, fun p hp => ?_⟩
    exact k _ hh _ _ (e13.trans (Ex.new hp)) (.lst upd_same (fun z => env3.oall p z hp) ((cut_is ra l h).ex (Ex.new hp) env.osb))
  | tup ha ra =>
    rename_i a xs ds
    refine .inr (.inl ⟨a, xs, rfl, by rw [hK]; exact ha, fun w => ?_, fun w p hp => ?_⟩)
    · rw [ra.length] at w
      have hh' : Qd (.tup (cutL ds l h)) := hh
      rw [cut_all w] at hh'
      exact k _ hh' _ H3 e13 (.tup ha ra)
    · exact k _ hh _ _ (e13.trans (Ex.new hp)) (.tup (SqT.of upd_same) ((cut_is ra l h).ex (Ex.new hp) env.osb))
  | str z hz => exact .inr (.inr ⟨z, rfl, hz.1, k _ hh _ H3 e13 (.str _ (okS_cut hz l h))⟩)
  | _ => exact False.elim hh
/-! ### built-in functions -/
abbrev DR := List D → (D → Prop) → Prop
def CallS (B : Bg) (K : PySem.W.Frag) (r : List V → Hp → VK → Prop) (r' : DR) : Prop := ∀ (O : Addr → Prop) (H : Hp) (vs : List V) (ds : List D) (Qd : D → Prop) (Q : VK), O B.b → (∀ a, O a → H a ≠ none) → IsL B O K H vs ds → r' ds Qd →
  (∀ d, Qd d → ∀ v H', Ex B H H' → Is B O K H' v d → Q v H') → r vs H Q
def CallD (X : Cx) (B : Bg) (f : Value) (r' : DR) : Prop := ∃ r, CallR X f r ∧ CallS B X.K r r'
def dCB (r : DR) (da : DA) : DE := fun ρ Xd Q => da ρ Xd fun ds => r ds Q
theorem up_cb {r : List V → Hp → VK → Prop} {r' : DR} {da : DA} (hs : CallS F.B F.K r r') : ∀ σ H Q, upE F Cl W (dCB r' da) σ H Q → tCB r (upA F Cl W da) σ H Q := fun σ H Q ⟨ρ, Xd, Qd, env, h1, xo, k⟩ =>
  ⟨ρ, Xd, _, env, h1, xo, fun ds hd vs H1 e1 i1 => hs _ H1 vs ds Qd Q env.osb (env.ex' e1).oall i1 hd fun d hd v H' e2 i2 => k d hd v H' (e1.trans e2) i2⟩
theorem xCallB {x : Str} {p pos : Pos} {id : String} {e : Expr} {es : List Expr} {r' : DR} {da : DA} (hc : CallD X F.B (.builtin id) r') (hg : Gl X x) (hm : X.mg x = none) (hv : bootBuiltins x = some (.builtin id)) (ha : PA X (e :: es) (upA F Cl W da))
    (hn : x ≠ "__name__" := by decide) (hdb : (x == ("__debug__" : Str)) = false := by decide) (he : starEach (e :: es) X.env = (false, eval e X.env) :: starEach es X.env := by rfl) (hpl : (backTo pos (starEach es X.env)).any (·.1) = false := by rfl) (hK : X.K = F.K := by rfl) :
    PE X (.Call (.Name x p) (e :: es) [] pos) (upE F Cl W (dCB r' da)) := by
  obtain ⟨r, h1, h2⟩ := hc
  exact pe_imp (pe_callB h1 hg hm hv ha hn hdb he hpl) (up_cb (by rw [← hK]; exact h2))
theorem xCallTy {x : Str} {p pos : Pos} {T : String} {e : Expr} {es : List Expr} {r' : DR} {da : DA} (hc : CallD X F.B (.type T) r') (hg : Gl X x) (hm : X.mg x = none) (hv : bootBuiltins x = some (.type T)) (ha : PA X (e :: es) (upA F Cl W da))
    (hn : x ≠ "__name__" := by decide) (hdb : (x == ("__debug__" : Str)) = false := by decide) (he : starEach (e :: es) X.env = (false, eval e X.env) :: starEach es X.env := by rfl) (hpl : (backTo pos (starEach es X.env)).any (·.1) = false := by rfl) (hK : X.K = F.K := by rfl) :
    PE X (.Call (.Name x p) (e :: es) [] pos) (upE F Cl W (dCB r' da)) := by
  obtain ⟨r, h1, h2⟩ := hc
  exact pe_imp (pe_callTy h1 hg hm hv ha hn hdb he hpl) (up_cb (by rw [← hK]; exact h2))
/-! ### len, isinstance, int, list, tuple, sum, max, all, any, sorted -/
def rLen : DR := fun ds Q => match ds with
  | [.str s] => Q (.int s.length)
  | [.tup xs] => Q (.int xs.length)
  | [.lst xs] => Q (.int xs.length)
  | [.dct kvs] => Q (.int kvs.length)
  | _ => False
theorem one_of {O : Addr → Prop} {K : PySem.W.Frag} {H : Hp} {vs : List V} {d : D} (h : IsL B O K H vs [d]) : ∃ v, vs = [v] ∧ Is B O K H v d := by
  cases h with
  | cons h r => cases r; exact ⟨_, rfl, h⟩
theorem two_of {O : Addr → Prop} {K : PySem.W.Frag} {H : Hp} {vs : List V} {d e : D} (h : IsL B O K H vs [d, e]) : ∃ v w, vs = [v, w] ∧ Is B O K H v d ∧ Is B O K H w e := by
  cases h with
  | cons h r =>
    obtain ⟨w, rfl, hw⟩ := one_of r
    exact ⟨_, w, rfl, h, hw⟩
theorem cLen : CallD X B (.builtin "len") rLen := by
  refine ⟨_, CallR.or call_len_str (CallR.or call_len_seq call_lenD), fun O H vs ds Qd Q ob oa hv h k => ?_⟩
  rcases ds with _ | ⟨d, _ | ⟨d2, dr⟩⟩
  · exact False.elim h
  rotate_left
  · cases d <;> exact False.elim h
  · obtain ⟨v, rfl, i⟩ := one_of hv
    cases i with
    | str s hs => exact .inl ⟨s, rfl, hs.1, k _ h _ H (Ex.refl _ _) (.int _)⟩
    | tup ha ra => exact .inr (.inl ⟨_, _, rfl, .inr ha, by rw [ra.length]; exact k _ h _ H (Ex.refl _ _) (.int _)⟩)
    | lst ha na ra => exact .inr (.inl ⟨_, _, rfl, .inl (SqL.of ha), by rw [ra.length]; exact k _ h _ H (Ex.refl _ _) (.int _)⟩)
    | dct ha na r1 r2 =>
      refine .inr (.inr ⟨_, _, rfl, ha, ?_⟩)
      have l1 := r1.length
      have l2 := r2.length
      rw [List.length_map] at l1 l2
      refine k _ h _ H (Ex.refl _ _) ?_
      rw [List.length_zip, ← l1, ← l2, Nat.min_self]
      exact .int _
    | _ => exact False.elim h
def tyN : D → String
  | .non => "NoneType"
  | .bl _ => "bool"
  | .int _ => "int"
  | .str _ => "str"
  | .ty _ => "type"
  | .tup _ => "tuple"
  | .lst _ => "list"
  | .dct _ => "dict"
  | .bag => "list"
def isPl : D → Bool
  | .ty _ => false
  | .bag => false
  | _ => true
/-- isinstance of plain data and a plain class -/
def isiN (n : String) (d : D) : Bool := tyN d == n || (tyN d == "bool" && n == "int")
theorem ty_of {O : Addr → Prop} {K : PySem.W.Frag} {H : Hp} {x : V} {d : D} (h : Is B O K H x d) (p : isPl d = true) : TyX K H x (.type (tyN d)) := by
  cases h with
  | non => exact .base .non
  | bl c => exact .base (.bl c)
  | int i => exact .base (.int i)
  | str s h => exact .base (.str s)
  | tup h r =>
    rcases h with (h | ⟨o, h⟩) | ⟨o, its, n, h1, h2, _⟩
    · exact .base (.tup h)
    · exact .fTuple h
    · exact .kTuple h1 h2
  | lst h n r => exact .base (.lst h)
  | dct h n r1 r2 => exact .base (.dK h)
  | _ => cases p
def plainTys : List String := ["str", "int", "bool", "list", "tuple", "dict"]
theorem kit_n (K : PySem.W.Frag) {d : D} {n : String} (p : isPl d = true) (hn : n ∈ plainTys) : PySem.W.kitOne K (.type (tyN d)) (.type n) = some (isiN n d) := by
  simp only [plainTys, List.mem_cons, List.not_mem_nil, or_false] at hn
  cases d <;> first | (cases p; done) | (rcases hn with rfl | rfl | rfl | rfl | rfl | rfl <;> kernel_rfl)
def rIsi : DR := fun ds Q => ∃ d n, ds = [d, .ty n] ∧ isPl d = true ∧ n ∈ plainTys ∧ Q (.bl (isiN n d))
theorem cIsi : CallD X B (.builtin "isinstance") rIsi := by
  refine ⟨_, call_isi, fun O H vs ds Qd Q ob oa hv h k => ?_⟩
  obtain ⟨d, n, rfl, p, hn, q⟩ := h
  obtain ⟨v, w, rfl, iv, iw⟩ := two_of hv
  cases iw
  exact ⟨v, .ty n, _, _, _, rfl, .ty n, ty_of iv p, kit_n X.K p hn, k _ q _ H (Ex.refl _ _) (.bl _)⟩
theorem kit_2 (K : PySem.W.Frag) {d : D} {n m : String} (p : isPl d = true) (hn : n ∈ plainTys) (hm : m ∈ plainTys) : PySem.W.kitAny K (.type (tyN d)) [.type n, .type m] = some (isiN n d || isiN m d) := by
  simp only [plainTys, List.mem_cons, List.not_mem_nil, or_false] at hn hm
  cases d <;> first | (cases p; done) | (rcases hn with rfl | rfl | rfl | rfl | rfl | rfl <;> rcases hm with rfl | rfl | rfl | rfl | rfl | rfl <;> kernel_rfl)
/-- a built-in class as a value -/
theorem xTy {x : Str} {n : String} {pos : Pos} (hg : Gl X x) (hm : X.mg x = none) (hv : bootBuiltins x = some (.type n)) (hn : x ≠ "__name__" := by decide) (hd : (x == ("__debug__" : Str)) = false := by decide) : PE X (.Name x pos) (upE F Cl W (dC (.ty n))) :=
  pe_imp (pe_bltn (v := .ty n) hg hm hv rfl hn hd) fun σ H Q ⟨ρ, Xd, Qd, env, h1, xo, k⟩ => k _ h1 _ H (Ex.refl _ _) (.ty n)
/-- isinstance(e, (A, B)) -/
def dIsi2 (n m : String) (de : DE) : DE := fun ρ Xd Q => de ρ Xd fun d => isPl d = true ∧ Q (.bl (isiN n d || isiN m d))
theorem xIsi2 {e : Expr} {a b : Str} {n m : String} {p pa pb tp pos : Pos} {kk} {de : DE} (he : PE X e (upE F Cl W de)) (hg : Gl X "isinstance") (hm0 : X.mg "isinstance" = none) (ga : Gl X a) (ma : X.mg a = none) (va : bootBuiltins a = some (.type n)) (gb : Gl X b) (mb : X.mg b = none) (vb : bootBuiltins b = some (.type m))
    (hn : n ∈ plainTys) (hm : m ∈ plainTys) (na : a ≠ "__name__" := by decide) (da : (a == ("__debug__" : Str)) = false := by decide) (nb : b ≠ "__name__" := by decide) (db : (b == ("__debug__" : Str)) = false := by decide)
    (h1 : starEach [e, .Tuple [.Name a pa, .Name b pb] kk tp] X.env = (false, eval e X.env) :: starEach [.Tuple [.Name a pa, .Name b pb] kk tp] X.env := by rfl) (hpl : (backTo pos (starEach [.Tuple [.Name a pa, .Name b pb] kk tp] X.env)).any (·.1) = false := by rfl) (hK : X.K = F.K := by rfl) :
    PE X (.Call (.Name "isinstance" p) [e, .Tuple [.Name a pa, .Name b pb] kk tp] [] pos) (upE F Cl W (dIsi2 n m de)) := by
  refine pe_imp (pe_callB call_isiT hg hm0 (by decide +kernel) (pa_cons he (pa_cons (pe_tup (pa_cons (pe_bltn (v := .ty n) ga ma va rfl na da) (pa_cons (pe_bltn (v := .ty m) gb mb vb rfl nb db) pa_nil))) pa_nil) h1) (by decide) (by decide) h1 hpl) fun σ H Q ⟨ρ, Xd, Qd, env, h1, xo, k⟩ => ?_
  refine ⟨ρ, Xd, _, env, h1, xo, fun d ⟨p, q⟩ v H1 e1 i1 => ?_⟩
  refine ⟨by show 2 ≤ sizeLine; decide, fun t ht => ?_⟩
  have i2 := i1.ex (Ex.new (o := .tup [.ty n, .ty m]) ht) env.osb
  exact ⟨v, t, _, _, _, _, rfl, upd_same, .cons (.ty n) (.cons (.ty m) .nil), by rw [hK]; exact ty_of i2 p, kit_2 _ p hn hm, k _ q _ _ (e1.trans (Ex.new ht)) (.bl _)⟩
def rInt : DR := fun ds Q => match ds with
  | [.int i] => Q (.int i)
  | [.bl b] => Q (.int (if b then 1 else 0))
  | _ => False
theorem cInt : CallD X B (.type "int") rInt := by
  refine ⟨_, call_int1, fun O H vs ds Qd Q ob oa hv h k => ?_⟩
  rcases ds with _ | ⟨d, _ | ⟨d2, dr⟩⟩
  · exact False.elim h
  rotate_left
  · cases d <;> exact False.elim h
  · obtain ⟨v, rfl, i⟩ := one_of hv
    cases i with
    | int i => exact .inl ⟨i, rfl, k _ h _ H (Ex.refl _ _) (.int _)⟩
    | bl b => exact .inr ⟨b, rfl, k _ h _ H (Ex.refl _ _) (.int _)⟩
    | _ => exact False.elim h
/-- list(x): a new one -/
def rList : DR := fun ds Q => match ds with
  | [.tup xs] => Q (.lst xs)
  | [.lst xs] => Q (.lst xs)
  | [.dct kvs] => Q (.lst (kvs.map (·.1)))
  | _ => False
def CallN (X : Cx) (B : Bg) (f : Value) (r' : DR) : Prop := ∃ r, CallR X f r ∧ ∀ (O : Addr → Prop) (H : Hp) (vs : List V) (ds : List D) (Qd : D → Prop) (Q : VK), O B.b → (∀ a, O a → H a ≠ none) → IsL B O X.K H vs ds → r' ds Qd →
  (∀ d, Qd d → ∀ a H', Ex B H H' → H a = none → OwnN B O X.K H' a d → Q (.ref a) H') → r vs H Q
theorem zip_keys {α β : Type} : ∀ {ks : List α} {vs : List β}, ks.length = vs.length → (ks.zip vs).map (·.1) = ks
  | [], _, _ => by simp
  | k :: ks, [], h => by simp at h
  | k :: ks, v :: vs, h => by
    rw [List.zip_cons_cons, List.map_cons, zip_keys (by simpa using h)]
theorem dct_len {O : Addr → Prop} {K : PySem.W.Frag} {H : Hp} {kvs : List (Key × V)} {ks vs : List D} (r1 : IsL B O K H (kvs.map fun p => kV p.1) ks) (r2 : IsL B O K H (kvs.map fun p => p.2) vs) : ks.length = vs.length := by
  have l1 := r1.length
  have l2 := r2.length
  rw [List.length_map] at l1 l2
  omega
theorem cList (hc : X.calm = true) : CallN X B (.type "list") rList := by
  refine ⟨_, CallR.or call_list_of (call_listD hc), fun O H vs ds Qd Q ob oa hv h k => ?_⟩
  rcases ds with _ | ⟨d, _ | ⟨d2, dr⟩⟩
  · exact False.elim h
  rotate_left
  · cases d <;> exact False.elim h
  · obtain ⟨v, rfl, i⟩ := one_of hv
    cases i with
    | tup ha ra => exact .inl ⟨_, _, rfl, .inr ha, fun l hl => k _ h l _ (Ex.new hl) hl (own_new ra hl ob)⟩
    | lst ha na ra => exact .inl ⟨_, _, rfl, .inl (SqL.of ha), fun l hl => k _ h l _ (Ex.new hl) hl (own_new ra hl ob)⟩
    | dct ha na r1 r2 => exact .inr ⟨_, _, rfl, .inl ha, fun l hl => k _ h l _ (Ex.new hl) hl (own_new (by rw [zip_keys (dct_len r1 r2)]; exact r1) hl ob)⟩
    | _ => exact False.elim h
theorem nCallTy {x : Str} {p pos : Pos} {T : String} {e : Expr} {es : List Expr} {r' : DR} {da : DA} (hc : CallN X F.B (.type T) r') (hg : Gl X x) (hm : X.mg x = none) (hv : bootBuiltins x = some (.type T)) (ha : PA X (e :: es) (upA F Cl W da))
    (hn : x ≠ "__name__" := by decide) (hdb : (x == ("__debug__" : Str)) = false := by decide) (he : starEach (e :: es) X.env = (false, eval e X.env) :: starEach es X.env := by rfl) (hpl : (backTo pos (starEach es X.env)).any (·.1) = false := by rfl) (hK : X.K = F.K := by rfl) :
    PE X (.Call (.Name x p) (e :: es) [] pos) (upN F Cl W (dCB r' da)) := by
  obtain ⟨r, h1, h2⟩ := hc
  refine pe_imp (pe_callTy h1 hg hm hv ha hn hdb he hpl) fun σ H Q ⟨ρ, Xd, Qd, env, h1, xo, k⟩ => ?_
  exact ⟨ρ, Xd, _, env, h1, xo, fun ds hd vs H1 e1 i1 => h2 _ H1 vs ds Qd Q env.osb (env.ex' e1).oall (by rw [hK]; exact i1) hd fun d hd a H' e2 n o => k d hd a H' (e1.trans e2) (e1.free n) (by rw [← hK]; exact o)⟩
theorem nCallB {x : Str} {p pos : Pos} {T : String} {e : Expr} {es : List Expr} {r' : DR} {da : DA} (hc : CallN X F.B (.builtin T) r') (hg : Gl X x) (hm : X.mg x = none) (hv : bootBuiltins x = some (.builtin T)) (ha : PA X (e :: es) (upA F Cl W da))
    (hn : x ≠ "__name__" := by decide) (hdb : (x == ("__debug__" : Str)) = false := by decide) (he : starEach (e :: es) X.env = (false, eval e X.env) :: starEach es X.env := by rfl) (hpl : (backTo pos (starEach es X.env)).any (·.1) = false := by rfl) (hK : X.K = F.K := by rfl) :
    PE X (.Call (.Name x p) (e :: es) [] pos) (upN F Cl W (dCB r' da)) := by
  obtain ⟨r, h1, h2⟩ := hc
  refine pe_imp (pe_callB h1 hg hm hv ha hn hdb he hpl) fun σ H Q ⟨ρ, Xd, Qd, env, h1, xo, k⟩ => ?_
  exact ⟨ρ, Xd, _, env, h1, xo, fun ds hd vs H1 e1 i1 => h2 _ H1 vs ds Qd Q env.osb (env.ex' e1).oall (by rw [hK]; exact i1) hd fun d hd a H' e2 n o => k d hd a H' (e1.trans e2) (e1.free n) (by rw [← hK]; exact o)⟩
def rTuple : DR := fun ds Q => match ds with
  | [.tup xs] => Q (.tup xs)
  | [.lst xs] => Q (.tup xs)
  | _ => False
theorem cTuple : CallD X B (.type "tuple") rTuple := by
  refine ⟨_, call_tuple_of, fun O H vs ds Qd Q ob oa hv h k => ?_⟩
  rcases ds with _ | ⟨d, _ | ⟨d2, dr⟩⟩
  · exact False.elim h
  rotate_left
  · cases d <;> exact False.elim h
  · obtain ⟨v, rfl, i⟩ := one_of hv
    cases i with
    | tup ha ra => exact ⟨_, _, rfl, .inr ⟨ha, k _ h _ H (Ex.refl _ _) (.tup ha ra)⟩⟩
    | lst ha na ra => exact ⟨_, _, rfl, .inl ⟨SqL.of ha, fun l hl => k _ h _ _ (Ex.new hl) (.tup (SqT.of upd_same) (ra.ex (Ex.new hl) ob))⟩⟩
    | _ => exact False.elim h
theorem ints_of {O : Addr → Prop} {K : PySem.W.Frag} {H : Hp} : ∀ {xs : List V} {ns : List Int}, IsL B O K H xs (ns.map D.int) → xs = ns.map V.int
  | _, [], .nil => rfl
  | _, n :: r, .cons h t => by
    cases h
    rw [ints_of t] <;> rfl
theorem bools_of {O : Addr → Prop} {K : PySem.W.Frag} {H : Hp} : ∀ {xs : List V} {ns : List Bool}, IsL B O K H xs (ns.map D.bl) → xs = ns.map V.bl
  | _, [], .nil => rfl
  | _, n :: r, .cons h t => by
    cases h
    rw [bools_of t] <;> rfl
theorem strs_of {O : Addr → Prop} {K : PySem.W.Frag} {H : Hp} : ∀ {xs : List V} {ns : List Str}, IsL B O K H xs (ns.map D.str) → xs = ns.map V.str ∧ ∀ s ∈ ns, okS s
  | _, [], .nil => ⟨rfl, fun _ h => nomatch h⟩
  | _, n :: r, .cons h t => by
    cases h with
    | str s hs =>
      obtain ⟨e, q⟩ := strs_of t
      refine ⟨by rw [e] <;> rfl, fun z hz => ?_⟩
      rcases List.mem_cons.mp hz with rfl | hz
      · exact hs
      · exact q z hz
def rSum : DR := fun ds Q => ∃ ns : List Int, ds = [.lst (ns.map D.int)] ∧ Q (.int ns.sum)
theorem cSum (hc : X.calm = true) : CallD X B (.builtin "sum") rSum := by
  refine ⟨_, cr_sum hc, fun O H vs ds Qd Q ob oa hv h k => ?_⟩
  obtain ⟨ns, rfl, q⟩ := h
  obtain ⟨v, rfl, i⟩ := one_of hv
  cases i with
  | lst ha na ra => exact ⟨_, ns, rfl, by rw [← ints_of ra]; exact SqL.of ha, k _ q _ H (Ex.refl _ _) (.int _)⟩
def rAll : DR := fun ds Q => ∃ bs : List Bool, ds = [.lst (bs.map D.bl)] ∧ Q (.bl (bs.all id))
theorem cAll (hc : X.calm = true) : CallD X B (.builtin "all") rAll := by
  refine ⟨_, cr_all hc, fun O H vs ds Qd Q ob oa hv h k => ?_⟩
  obtain ⟨ns, rfl, q⟩ := h
  obtain ⟨v, rfl, i⟩ := one_of hv
  cases i with
  | lst ha na ra => exact ⟨_, ns, rfl, by rw [← bools_of ra]; exact SqL.of ha, k _ q _ H (Ex.refl _ _) (.bl _)⟩
def rAny : DR := fun ds Q => ∃ bs : List Bool, ds = [.lst (bs.map D.bl)] ∧ Q (.bl (bs.any id))
theorem cAny (hc : X.calm = true) : CallD X B (.builtin "any") rAny := by
  refine ⟨_, cr_any hc, fun O H vs ds Qd Q ob oa hv h k => ?_⟩
  obtain ⟨ns, rfl, q⟩ := h
  obtain ⟨v, rfl, i⟩ := one_of hv
  cases i with
  | lst ha na ra => exact ⟨_, ns, rfl, by rw [← bools_of ra]; exact SqL.of ha, k _ q _ H (Ex.refl _ _) (.bl _)⟩
/-- max of a list, of two ints -/
def rMax : DR := fun ds Q => (∃ ns : List Int, ds = [.lst (ns.map D.int)] ∧ 0 < ns.length ∧ ∀ m, m ∈ ns → (∀ y ∈ ns, y ≤ m) → Q (.int m)) ∨ ∃ i j, ds = [.int i, .int j] ∧ Q (.int (if j > i then j else i))
theorem cMax (hc : X.calm = true) : CallD X B (.builtin "max") rMax := by
  refine ⟨_, CallR.or (cr_max hc) (call_max2 hc), fun O H vs ds Qd Q ob oa hv h k => ?_⟩
  rcases h with ⟨ns, rfl, hz, q⟩ | ⟨i, j, rfl, q⟩
  · obtain ⟨v, rfl, i⟩ := one_of hv
    cases i with
    | lst ha na ra => exact .inl ⟨_, ns, rfl, by rw [← ints_of ra]; exact SqL.of ha, hz, fun m h1 h2 => k _ (q m h1 h2) _ H (Ex.refl _ _) (.int _)⟩
  · obtain ⟨v, w, rfl, iv, iw⟩ := two_of hv
    cases iv
    cases iw
    exact .inr ⟨i, j, rfl, k _ q _ H (Ex.refl _ _) (.int _)⟩
end
end HD
/-! HD5: statements, loops, comprehensions, calls of defs, over data. -/
namespace HD
open PySem PyProof.Rows L2
section
variable {X : Cx} {F : Fx} {Cl : Str → Addr} {W : WX} {B : Bg}
def dNext : DS := fun De ρ => De.nx ρ
def dSeq (a b : DS) : DS := fun De ρ => a { De with nx := b De } ρ
def dRet (de : DE) : DS := fun De ρ => de ρ (De.ex ρ) De.rt
def dRetN : DS := fun De _ => De.rt .non
def dDrop (de : DE) : DS := fun De ρ => de ρ (De.ex ρ) fun _ => De.nx ρ
def dIfS (c : DT) (a b : DS) : DS := fun De ρ => c ρ (De.ex ρ) fun t => if t = true then a De ρ else b De ρ
def dAsg (i : Nat) (de : DE) : DS := fun De ρ => de ρ (De.ex ρ) fun d => De.nx (ρ.set i (some (.val d)))
def dOwn (i : Nat) (de : DE) : DS := fun De ρ => de ρ (De.ex ρ) fun d => De.nx (ρ.set i (some (.own d)))
def dAppend (i : Nat) (de : DE) : DS := fun De ρ => ∃ ds, ρ[i]? = some (some (.own (.lst ds))) ∧ de ρ (De.ex ρ) fun d => ds.length < sizeLine ∧ De.nx (ρ.set i (some (.own (.lst (ds ++ [d])))))
def dFrz (i : Nat) (s : DS) : DS := fun De ρ => ∃ d, ρ[i]? = some (some (.own d)) ∧ s De (ρ.set i (some (.val d)))
def dAug (i : Nat) (de : DE) : DS := fun De ρ => ∃ a, ρ[i]? = some (some (.val (.int a))) ∧ de ρ (De.ex ρ) fun d => ∃ b, d = .int b ∧ De.nx (ρ.set i (some (.val (.int (a + b)))))
theorem xo_of {σ : L2.St} {H : Hp} {ρ : Rho} {De : DEnds} (env : EnvOk F H σ ρ) (k : ∀ ρ' e, De.ex ρ' e → ∀ σ' H' dd v, EnvOk F H' σ' ρ' → H' dd = some (.xd [(fldOf e.1, v)]) → Is F.B (OS F σ' ρ') F.K H' v e.2 → W (.ref (Cl e.1)) (some dd) σ' H') : XO F Cl W σ H ρ (De.ex ρ) :=
  fun e he dd v H' x h1 h2 => k ρ e he σ H' dd v (env.ex' x) h1 h2
theorem sNil : PSs X [] (upS F Cl W dNext) := pss_imp pss_nil fun D σ H ⟨ρ, De, env, h, k1, _⟩ => k1 ρ h σ H env
theorem sOne {st : Stmt} {a : DS} (h : PS X st (upS F Cl W a)) : PSs X [st] (upS F Cl W a) := pss_one h
theorem sCons {st : Stmt} {rest : List Stmt} {a b : DS} (h1 : PS X st (upS F Cl W a)) (h2 : PSs X rest (upS F Cl W b)) : PSs X (st :: rest) (upS F Cl W (dSeq a b)) :=
  pss_imp (pss_cons h1 h2) fun D σ H ⟨ρ, De, env, h, k1, k2, k3, k4, k5⟩ => ⟨ρ, _, env, h, fun ρ' h' σ' H' env' => ⟨ρ', De, env', h', k1, k2, k3, k4, k5⟩, k2, k3, k4, k5⟩
theorem sFrz {sts : List Stmt} {i : Nat} {a : DS} (h : PSs X sts (upS F Cl W a)) : PSs X sts (upS F Cl W (dFrz i a)) := pss_imp h fun D σ H ⟨ρ, De, env, ⟨d, e, h⟩, k1, k2, k3, k4, k5⟩ => ⟨_, De, env.freeze e, h, k1, k2, k3, k4, k5⟩
theorem sPass {pos : Pos} : PS X (.Pass pos) (upS F Cl W dNext) := ps_imp ps_pass fun D σ H ⟨ρ, De, env, h, k1, _⟩ => k1 ρ h σ H env
def dBreak : DS := fun De ρ => De.bk ρ
def dCont : DS := fun De ρ => De.ct ρ
theorem sBreak {pos : Pos} : PS X (.Break pos) (upS F Cl W dBreak) := ps_imp ps_break fun D σ H ⟨ρ, De, env, h, _, _, k3, _⟩ => k3 ρ h σ H env
theorem sCont {pos : Pos} : PS X (.Continue pos) (upS F Cl W dCont) := ps_imp ps_continue fun D σ H ⟨ρ, De, env, h, _, _, _, k4, _⟩ => k4 ρ h σ H env
theorem sRet {e : Expr} {pos : Pos} {de : DE} (h : PE X e (upE F Cl W de)) : PS X (.Return (some e) pos) (upS F Cl W (dRet de)) := ps_imp (ps_ret h) fun D σ H ⟨ρ, De, env, h, k1, k2, k3, k4, k5⟩ =>
  ⟨ρ, De.ex ρ, De.rt, env, h, xo_of env k5, fun d hd v H' x i => k2 d hd v H' (env.ex.trans x) (i.sub (fun c z => .inl (.inl z)) env.ob)⟩
theorem sRetN {pos : Pos} : PS X (.Return none pos) (upS F Cl W dRetN) := ps_imp ps_retN fun D σ H ⟨ρ, De, env, h, k1, k2, k3, k4, k5⟩ => k2 _ h _ H env.ex .non
theorem sDrop {e : Expr} {pos : Pos} {de : DE} (h : PE X e (upE F Cl W de)) (hs : swapsWith e none pos.line X.env = pure false := by rfl) : PS X (.Expr e pos) (upS F Cl W (dDrop de)) := ps_imp (ps_expr h hs) fun D σ H ⟨ρ, De, env, h, k1, k2, k3, k4, k5⟩ =>
  ⟨ρ, De.ex ρ, _, env, h, xo_of env k5, fun d hd v H' x i => k1 ρ hd σ H' (env.ex' x)⟩
theorem sIf {c : Expr} {a b : List Stmt} {pos : Pos} {dt : DT} {da db : DS} (hc : PT X c (upT F Cl W dt)) (ha : PSs X a (upS F Cl W da)) (hb : PSs X b (upS F Cl W db)) : PS X (.If c a b pos) (upS F Cl W (dIfS dt da db)) :=
  ps_imp (ps_if hc ha hb) fun D σ H ⟨ρ, De, env, h, k1, k2, k3, k4, k5⟩ => ⟨ρ, De.ex ρ, _, env, h, xo_of env k5, fun c hc H' x => by
    cases c with
    | true => exact ⟨ρ, De, env.ex' x, hc, k1, k2, k3, k4, k5⟩
    | false => exact ⟨ρ, De, env.ex' x, hc, k1, k2, k3, k4, k5⟩⟩
theorem sSet {i : Nat} {x : Str} {e : Expr} {pos pos' : Pos} {de : DE} (hN : X.N.Nodup) (hi : X.N[i]? = some x) (hx : Loc X.env.scope x) (h : PE X e (upE F Cl W de)) (hs : swapsWith e (some (.Name x pos')) pos.line X.env = pure false := by rfl) (hf : X.fn x = true ∨ X.env.scope.names.lookup x = some .local := by first | exact .inl rfl | exact .inr rfl) : PS X (.Assign [.Name x pos'] e pos) (upS F Cl W (dAsg i de)) :=
  ps_imp (ps_set hN hi hx h hs hf) fun D σ H ⟨ρ, De, env, h, k1, k2, k3, k4, k5⟩ => ⟨ρ, De.ex ρ, _, env, h, xo_of env k5, fun d hd v H' x is => k1 _ hd _ H' ((env.ex' x).set is)⟩
theorem sOwn {i : Nat} {x : Str} {e : Expr} {pos pos' : Pos} {de : DE} (hN : X.N.Nodup) (hi : X.N[i]? = some x) (hx : Loc X.env.scope x) (h : PE X e (upN F Cl W de)) (hs : swapsWith e (some (.Name x pos')) pos.line X.env = pure false := by rfl) (hf : X.fn x = true ∨ X.env.scope.names.lookup x = some .local := by first | exact .inl rfl | exact .inr rfl) : PS X (.Assign [.Name x pos'] e pos) (upS F Cl W (dOwn i de)) :=
  ps_imp (ps_set hN hi hx h hs hf) fun D σ H ⟨ρ, De, env, h, k1, k2, k3, k4, k5⟩ => ⟨ρ, De.ex ρ, _, env, h, xo_of env k5, fun d hd a H' x n o => k1 _ hd _ H' (env.setOwn x n o)⟩
theorem sAppend {i : Nat} {x : Str} {e : Expr} {p1 p2 p3 pos : Pos} {de : DE} (hv : PE X (.Name x p1) (tVar i)) (h : PE X e (upE F Cl W de)) (hs : swapsWith (.Call (.Attribute (.Name x p1) "append" p2) [e] [] p3) none pos.line X.env = pure false := by rfl)
    (pe : ∀ (r : V → List V → Hp → VK → Prop) (to : TE) (t : TA), MtR X "list.append" r → PE X (.Name x p1) to → PA X [e] t → PE X (.Call (.Attribute (.Name x p1) "append" p2) [e] [] p3) (tBM X.K "list" r to t)) (hst : starEach [e] X.env = (false, eval e X.env) :: starEach [] X.env := by rfl) (hK : X.K = F.K := by rfl) :
    PS X (.Expr (.Call (.Attribute (.Name x p1) "append" p2) [e] [] p3) pos) (upS F Cl W (dAppend i de)) := by
  refine ps_imp (ps_expr (pe _ _ _ mt_append hv (pa_cons h pa_nil hst)) hs) fun D σ H ⟨ρ, De, env, ⟨ds, hd, h⟩, k1, k2, k3, k4, k5⟩ => ?_
  obtain ⟨a, ha, o, h0, hO⟩ := env.own i _ hd
  rcases o with ⟨xs, ds', e1, e2, e3⟩ | ⟨_, _, _, e1, _⟩
  · cases e1
    refine ⟨.ref a, ha, .inl ⟨rfl, xs, SqL.of e2⟩, ρ, De.ex ρ, _, env, h, xo_of env k5, fun d ⟨hz, hq⟩ v H' x is => ?_⟩
    have e2' := x.at e2 (env.nb hO).1
    have e3' := e3.ex x env.osb
    refine ⟨a, xs, v, rfl, rfl, e2', by rw [e3.length]; exact hz, ?_⟩
    refine k1 _ hq _ _ ((env.ex' x).mutOwn hd ha (.inl ⟨xs ++ [v], ds ++ [d], rfl, upd_same, ?_⟩))
    have op : OS F σ ρ a := .inr ⟨i, _, hd, ha⟩
    exact (e3'.append (.cons is .nil)).mut op e2' (.inl ⟨_, rfl⟩) (env.nb hO).1 (env.nb hO).2
  · cases e1
theorem sAug {i : Nat} {x : Str} {e : Expr} {pos pos' : Pos} {de : DE} (hN : X.N.Nodup) (hi : X.N[i]? = some x) (hx : Loc X.env.scope x) (h : PE X e (upE F Cl W de)) (hf : X.fn x = true ∨ X.env.scope.names.lookup x = some .local := by first | exact .inl rfl | exact .inr rfl) : PS X (.AugAssign (.Name x pos') .Add e pos) (upS F Cl W (dAug i de)) :=
  ps_imp (ps_aug hN hi hx h ip_add hf) fun D σ H ⟨ρ, De, env, ⟨a, ha, h⟩, k1, k2, k3, k4, k5⟩ => by
    obtain ⟨v, hv, is⟩ := env.val i _ ha
    cases is
    exact ⟨_, hv, ρ, De.ex ρ, _, env, h, xo_of env k5, fun d ⟨b, hd, q⟩ w H' x iw => by
      subst hd
      cases iw
      exact ⟨a, b, rfl, rfl, k1 _ q _ H' ((env.ex' x).set (.int _))⟩⟩
/-! ### calls of defs -/
def spF (Cl : Str → Addr) (K : PySem.W.Frag) (m : DFn) : Sp := fun vs H Q E => ∃ (B : Bg) (O : Addr → Prop) (ds : List D) (Xd : Err → Prop) (Qd : D → Prop), O B.b ∧ O B.l ∧ (∀ a, O a → H a ≠ none) ∧ IsL B O K H vs ds ∧ m ds Xd Qd ∧
  (∀ e, Xd e → ∀ dd v H', Ex B H H' → H' dd = some (.xd [(fldOf e.1, v)]) → Is B O K H' v e.2 → E (.ref (Cl e.1)) (some dd) H') ∧ ∀ d, Qd d → ∀ v H', Ex B H H' → Is B O K H' v d → Q v H'
/-- the name x is a def that does what m says, in at most level k -/
def Has (P : Program) (w : World) (K : PySem.W.Frag) (mg : Str → Option Value) (base : Heap) (Cl : Str → Addr) (x : Str) (k : Nat) (m : DFn) : Prop :=
  ∃ (f : Addr) (fd : FuncData) (ps : List Str), mg x = some (.ref f) ∧ PySem.W.keepIn K (.ref f) = true ∧ Binds K fd ps [] ∧ FnOk P w K mg base (L2.CX P w) k f fd ps (spF Cl K m)
theorem Has.mono {P : Program} {w : World} {K : PySem.W.Frag} {mg : Str → Option Value} {base : Heap} {x : Str} {k j : Nat} {m : DFn} (h : Has P w K mg base Cl x k m) (hl : k ≤ j) : Has P w K mg base Cl x j m := by
  obtain ⟨f, fd, ps, h1, h2, h3, h5⟩ := h
  exact ⟨f, fd, ps, h1, h2, h3, h5.mono hl⟩
def dCall (m : DFn) (da : DA) : DE := fun ρ Xd Q => da ρ Xd fun ds => m ds Xd Q
theorem xCall {x : Str} {k : Nat} {m : DFn} {p pos : Pos} {e : Expr} {es : List Expr} {da : DA} (h : Has X.prog X.w X.K X.mg X.base Cl x k m) (hr : Room k X.A) (tk : Takes X W) (hg : Gl X x) (ha : PA X (e :: es) (upA F Cl W da))
    (hdb : (x == ("__debug__" : Str)) = false := by decide) (he : starEach (e :: es) X.env = (false, eval e X.env) :: starEach es X.env := by rfl) (hpl : (backTo pos (starEach es X.env)).any (·.1) = false := by rfl) (hK : X.K = F.K := by rfl) :
    PE X (.Call (.Name x p) (e :: es) [] pos) (upE F Cl W (dCall m da)) := by
  obtain ⟨f, fd, ps, h1, h2, h3, h5⟩ := h
  refine pe_imp (pe_callS h5 hr hg h1 h2 h3 (fun σ => passAt tk σ) ha hdb he hpl) fun σ H Q ⟨ρ, Xd, Qd, env, h, xo, k⟩ => ?_
  refine ⟨ρ, Xd, _, env, h, xo, fun ds hd vs H1 e1 i1 => ?_⟩
  exact ⟨F.B, OS F σ ρ, ds, Xd, Qd, env.osb, .inl env.ol, (env.ex' e1).oall, by rw [hK]; exact i1, hd, fun e he dd v H' x h3 h4 => xo e he dd v H' (e1.trans x) h3 (by rw [← hK]; exact h4), fun d hd v H' x i => k d hd v H' (e1.trans x) (by rw [← hK]; exact i)⟩
/-! ### a def of the text -/
def rho0 (n : Nat) (ds : List D) : Rho := ds.map (fun d => some (.val d)) ++ List.replicate (n - ds.length) none
/-- what a def of np parameters and n names does -/
def dFn (n np : Nat) (db : DS) : DFn := fun ds Xd Qd => ds.length = np ∧ db { nx := fun _ => Qd .non, rt := Qd, bk := fun _ => False, ct := fun _ => False, ex := fun _ e => Xd e } (rho0 n ds)
theorem env0 {B : Bg} {O : Addr → Prop} {K : PySem.W.Frag} {H : Hp} {vs : List V} {ds : List D} {N : List Str} (ob : O B.b) (ol : O B.l) (oa : ∀ a, O a → H a ≠ none) (r : IsL B O K H vs ds) : EnvOk ⟨B, O, K, H, []⟩ H (L2.start N vs) (rho0 N.length ds) := by
  have hl := r.length
  have no : ∀ (i : Nat) (d : D), (rho0 N.length ds)[i]? ≠ some (some (.own d)) := fun i d h => by
    unfold rho0 at h
    rw [List.getElem?_append] at h
    split at h
    · rw [List.getElem?_map] at h
      cases q : ds[i]? with
      | none => rw [q] at h; cases h
      | some e => rw [q] at h; cases h
    · rw [List.getElem?_replicate] at h
      split at h <;> cases h
  have s : ∀ c, OS ⟨B, O, K, H, []⟩ (L2.start N vs) (rho0 N.length ds) c → O c ∨ H c = none := fun c z => by
    rcases z with z | ⟨i, d, z, _⟩
    · exact .inl z
    · exact absurd z (no i d)
  refine ⟨Ex.refl _ _, ?_, ob, ol, oa, fun i d h => ?_, fun i d h => absurd h (no i d), fun i j d e a h => absurd h (no i d), fun p hp => nomatch hp⟩
  · unfold L2.start rho0
    rw [List.length_append, List.length_append, List.length_map, List.length_map, List.length_replicate, List.length_replicate, hl]
  · unfold rho0 at h
    rw [List.getElem?_append] at h
    split at h
    · rename_i hi
      rw [List.length_map] at hi
      rw [List.getElem?_map] at h
      cases q : ds[i]? with
      | none => rw [q] at h; cases h
      | some e =>
        rw [q] at h
        cases h
        obtain ⟨v, hv, is⟩ := r.get q
        refine ⟨v, ?_, is.sub s (.inl ob)⟩
        unfold L2.start
        rw [List.getElem?_append_left (by rw [List.length_map, hl]; exact hi), List.getElem?_map, hv]
        rfl
    · rw [List.getElem?_replicate] at h
      split at h <;> cases h
theorem has_of {P : Program} {w : World} {K : PySem.W.Frag} {mg : Str → Option Value} {base : Heap} {x qual : Str} {params : Arguments} {body : List Stmt} {scope : Scope} {kws : List (Str × V)} {f : Addr} {fd : FuncData} {N ps : List Str} {k n np : Nat} {db : DS}
    (D : FunD K x qual params body scope [] kws f fd) (g : mg x = some (.ref f)) (S : FnScope N ps scope) (hn : N.length = n) (hp : ps.length = np) (b : Binds K fd ps [])
    (h : ∀ (cdv : Value) (A : Around) (outer : List Env) (s : Shared) (H : Hp) (E : XK) (B : Bg) (O : Addr → Prop), Room k (A.deeper (envOfC qual scope s.heap.objs.size f cdv)) →
      PSs (cxOf (L2.CX P w) P w K mg base N qual scope f cdv A outer s H E) body (upS ⟨B, O, K, H, []⟩ Cl (fun cls d _ H => E cls d H) db)) : Has P w K mg base Cl x (k + 1) (dFn n np db) := by
  refine ⟨f, fd, ps, g, D.kp, b, D.ok S (fun vs H Q E ⟨B, O, ds, Xd, Qd, _, _, _, r, hm, _⟩ => by rw [r.length, hm.1, hp]) fun cdv A outer s H vs Q E hr ⟨B, O, ds, Xd, Qd, ob, ol, oa, r, hm, kx, kq⟩ => ?_⟩
  refine ⟨_, h cdv A outer s H E B O hr, rho0 n ds, _, ?_, hm.2, fun _ h σ' H' e => ?_, fun d hd v H' x i => kq d hd v H' x i, fun _ h => h.elim, fun _ h => h.elim, fun ρ' e he σ' H' dd v env h1 h2 => ?_⟩
  · rw [← hn]; exact env0 ob ol oa r
  · exact kq _ h _ H' e.ex .non
  · exact kx e he dd v H' env.ex h1 (h2.sub (fun c z => .inl (.inl z)) ob)
/-! ### for -/
abbrev DI := Rho → (Err → Prop) → (List D → Prop) → Prop
/-- J gives the items of ds, as long as the value v is d -/
def Yl (B : Bg) (K : PySem.W.Frag) (J : It) (v : V) (d : D) (ds : List D) : Prop := ∀ (O : Addr → Prop) (H : Hp), O B.b → (∀ a, O a → H a ≠ none) → Is B O K H v d →
  (∀ (i : Nat) (x : D), ds[i]? = some x → J.go i H ∧ ∀ y H2, J.yld i H y H2 → Ex B H H2 ∧ Is B O K H2 y x) ∧ J.stop ds.length H
def upI (F : Fx) (Cl : Str → Addr) (W : WX) (di : DI) : TI := fun σ H R => ∃ ρ Xd Qd, EnvOk F H σ ρ ∧ di ρ Xd Qd ∧ XO F Cl W σ H ρ Xd ∧ ∀ ds, Qd ds → ∀ J v d H', Ex F.B H H' → Is F.B (OS F σ ρ) F.K H' v d → Yl F.B F.K J v d ds → R J H'
def Agree {α : Type} (vs : List Nat) (σ σ' : List α) : Prop := σ'.length = σ.length ∧ ∀ j, j ∉ vs → σ'[j]? = σ[j]?
abbrev DG := D → Rho → (Rho → Prop) → Prop
def upG (F : Fx) (vs : List Nat) (tg : DG) : TG := fun x σ H Q => ∃ ρ d Qd, EnvOk F H σ ρ ∧ Is F.B (OS F σ ρ) F.K H x d ∧ tg d ρ Qd ∧ ∀ ρ', Qd ρ' → ∀ σ', EnvOk F H σ' ρ' → Agree vs σ σ' → Agree vs ρ ρ' → Q σ' H
def tName (i : Nat) : DG := fun d ρ Q => Q (ρ.set i (some (.val d)))
theorem pg_imp {tg : Expr} {t t' : TG} (h : PG X tg t) (q : ∀ x σ H Q, t' x σ H Q → t x σ H Q) : PG X tg t' := ⟨fun pins s σ H v u Q I r z => h.run pins s σ H v u Q I r (q v σ H Q z)⟩
theorem pi_imp {tg e : Expr} {t t' : TI} (h : PI X tg e t) (q : ∀ σ H R, t' σ H R → t σ H R) : PI X tg e t' := ⟨fun pins s σ H R I z => h.run pins s σ H R I (q σ H R z)⟩
theorem gName1 {i : Nat} {x : Str} {pos : Pos} {vs : List Nat} (h : PG X (.Name x pos) (gName i)) (hi : i ∈ vs) : PG X (.Name x pos) (upG F vs (tName i)) := pg_imp h fun x σ H Q ⟨ρ, d, Qd, env, is, h, k⟩ =>
  k _ h _ (env.set is) ⟨by rw [List.length_set], fun j hj => by rw [List.getElem?_set_ne (fun e => hj (by rw [← e]; exact hi))]⟩ ⟨by rw [List.length_set], fun j hj => by rw [List.getElem?_set_ne (fun e => hj (by rw [← e]; exact hi))]⟩
/-- a, b -/
def tPair (i j : Nat) : DG := fun d ρ Q => ∃ a b, d = .tup [a, b] ∧ Q ((ρ.set i (some (.val a))).set j (some (.val b)))
theorem gPair {i j : Nat} {e1 e2 : Expr} {kk : Nat} {pos : Pos} {vs : List Nat} (hc : X.calm = true) (h1 : PG X e1 (gName i)) (h2 : PG X e2 (gName j)) (hi : i ∈ vs) (hj : j ∈ vs) (hn : (assignEach [e1, e2] X.env).length = 2 := by rfl) (hst : (assignEach [e1, e2] X.env).findIdx? (·.1) = none := by rfl)
    (hs : (assignEach [e1, e2] X.env).map (·.2) = assign e1 X.env :: (assignEach [e2] X.env).map (·.2) := by rfl) (hs2 : (assignEach [e2] X.env).map (·.2) = assign e2 X.env :: (assignEach [] X.env).map (·.2) := by rfl) (hK : X.K = F.K := by rfl) :
    PG X (.Tuple [e1, e2] kk pos) (upG F vs (tPair i j)) := pg_imp (pg_tup hc (pgs_cons h1 (pgs_cons h2 pgs_nil hs2) hs) hn hst) fun x σ H Q ⟨ρ, d, Qd, env, is, ⟨a, b, hd, h⟩, k⟩ => by
  subst hd
  cases is with
  | tup ha ra =>
    obtain ⟨v, w, rfl, iv, iw⟩ := two_of ra
    have env1 := env.set (i := i) iv
    have so : ∀ c, OS F (σ.set i (some v)) (ρ.set i (some (.val a))) c → OS F σ ρ c ∨ H c = none := fun c z => .inl (os_val (fun _ q => by cases q) z)
    have iw1 : Is F.B (OS F (σ.set i (some v)) (ρ.set i (some (.val a)))) F.K H w b := iw.sub so (.inl env.ob)
    refine ⟨_, _, rfl, by rw [hK]; exact ha, rfl, v, _, rfl, w, _, rfl, rfl, k _ h _ (env1.set (i := j) iw1) ⟨by rw [List.length_set, List.length_set], fun l hl => ?_⟩ ⟨by rw [List.length_set, List.length_set], fun l hl => ?_⟩⟩
    · rw [List.getElem?_set_ne (fun e => hl (by rw [← e]; exact hj)), List.getElem?_set_ne (fun e => hl (by rw [← e]; exact hi))]
    · rw [List.getElem?_set_ne (fun e => hl (by rw [← e]; exact hj)), List.getElem?_set_ne (fun e => hl (by rw [← e]; exact hi))]
def forD (tg : DG) (db : DS) : List D → DEnds → Rho → Prop
  | [], De, ρ => De.nx ρ
  | d :: r, De, ρ => tg d ρ fun ρ1 => db { De with nx := forD tg db r De, ct := forD tg db r De, bk := De.nx } ρ1
def dFor (di : DI) (tg : DG) (db : DS) : DS := fun De ρ => di ρ (De.ex ρ) fun ds => forD tg db ds De ρ
theorem pss_ex {ι : Type} {sts : List Stmt} {t : ι → TS} (h : ∀ g, PSs X sts (t g)) : PSs X sts (fun D σ H => ∃ g, t g D σ H) := ⟨fun pins s σ H D I ⟨g, z⟩ => (h g).run pins s σ H D I z⟩
theorem pe_ex {ι : Type} {e : Expr} {t : ι → TE} (h : ∀ g, PE X e (t g)) : PE X e (fun σ H Q => ∃ g, t g σ H Q) := ⟨fun pins s σ H Q I ⟨g, z⟩ => (h g).run pins s σ H Q I z⟩
theorem pts_ex {ι : Type} {e : List Expr} {t : ι → TT} (h : ∀ g, PTs X e (t g)) : PTs X e (fun σ H Q => ∃ g, t g σ H Q) := ⟨fun pins s σ H Q I ⟨g, z⟩ => (h g).run pins s σ H Q I z⟩
theorem pg_ex {ι : Type} {e : Expr} {t : ι → TG} (h : ∀ g, PG X e (t g)) : PG X e (fun x σ H Q => ∃ g, t g x σ H Q) := ⟨fun pins s σ H v u Q I r ⟨g, z⟩ => (h g).run pins s σ H v u Q I r z⟩
abbrev Fx.gh (F : Fx) (g : V × D) : Fx := { F with G := g :: F.G }
theorem sFor {tgt iter : Expr} {body : List Stmt} {pos : Pos} {di : DI} {tg : DG} {db : DS} {vs : List Nat} (hp : PassesOwn (model X.prog X.w) X.A X.env X.xe) (hc : X.calm = true) (hi : PI X tgt iter (upI F Cl W di)) (hg : ∀ g, PG X tgt (upG (F.gh g) vs tg)) (hb : ∀ g, PSs X body (upS (F.gh g) Cl W db)) (hs : ∀ x, foldedSetIterable iter X.env x = pure x := by intro _; rfl) :
    PS X (.For tgt iter body [] pos) (upS F Cl W (dFor di tg db)) := by
  refine ps_imp (ps_for hp hc hi (pg_ex hg) (pss_ex hb) hs) fun D σ H ⟨ρ, De, env, h, k1, k2, k3, k4, k5⟩ => ?_
  refine ⟨ρ, De.ex ρ, _, env, h, xo_of env k5, fun ds hd J v d H1 e1 is yl => ?_⟩
  refine ⟨fun i m σ' H' => ∃ ρ', EnvOk (F.gh (v, d)) H' σ' ρ' ∧ i ≤ ds.length ∧ m = ds.length - i ∧ forD tg db (ds.drop i) De ρ', ⟨ds.length, ρ, (env.ex' e1).ghost is, Nat.zero_le _, by simp, by simpa using hd⟩, ?_⟩
  rintro i m σ' H' ⟨ρ', env', hle, rfl, hf⟩
  have gi : Is F.B (OS F σ' ρ') F.K H' v d := env'.gh (v, d) (List.mem_cons_self ..)
  obtain ⟨y1, y2⟩ := yl (OS F σ' ρ') H' env'.osb env'.oall gi
  by_cases hlt : i < ds.length
  · have hx : ds[i]? = some ds[i] := by simp [hlt]
    rw [List.drop_eq_getElem_cons hlt] at hf
    obtain ⟨z1, z2⟩ := y1 i _ hx
    refine .inr ⟨z1, fun σ2 H2 => ∃ ρ2, EnvOk (F.gh (v, d)) H2 σ2 ρ2 ∧ forD tg db (ds.drop (i + 1)) De ρ2, fun σ2 H2 ⟨ρ2, q1, q2⟩ => ⟨ds.length - (i + 1), by omega, ρ2, q1, hlt, rfl, q2⟩, fun x H2 yd => ?_⟩
    obtain ⟨x1, x2⟩ := z2 x H2 yd
    refine ⟨(v, d), ρ', _, _, env'.ex' x1, x2, hf, fun ρ3 q3 σ3 env3 _ _ => ⟨(v, d), ρ3, _, env3, q3, fun ρ4 q4 σ4 H4 env4 => ⟨ρ4, env4, q4⟩, k2, fun ρ4 q4 σ4 H4 env4 => k1 ρ4 q4 σ4 H4 env4.unghost, fun ρ4 q4 σ4 H4 env4 => ⟨ρ4, env4, q4⟩, fun ρ4 e q4 σ4 H4 dd w env4 => k5 ρ4 e q4 σ4 H4 dd w env4.unghost⟩⟩
  · have e : i = ds.length := by omega
    subst e
    rw [List.drop_length] at hf
    exact .inl ⟨y2, k1 ρ' hf σ' H' env'.unghost⟩
end
end HD
/-! HD6: what is walked; comprehensions; while. -/
namespace HD
open PySem PyProof.Rows L2
section
variable {X : Cx} {F : Fx} {Cl : Str → Addr} {W : WX} {B : Bg}
/-! ### a list, a tuple, a text -/
def itemsOf : D → Option (List D)
  | .lst ds => some ds
  | .tup ds => some ds
  | .str s => some (s.cps.toList.map fun c => .str ⟨#[c]⟩)
  | _ => none
theorem it_list {tg : Expr} {pins : List (Addr × Obj)} {σ : L2.St} {H : Hp} {s : Shared} {R : It → Hp → Prop} {a : Addr} {xs : List V} (I : Inv X pins σ H s) (hq : SqL X.K H a xs) (q : R (Itl X.K a) H) :
    wpAny (model X.prog X.w) X.A (pyIter (.ref a)) (PIE X pins σ tg R) X.xe s := by
  obtain ⟨its, rv, pl, hz⟩ := I.list hq
  exact wpAny_pyIter_list pl.isList (pi_one (tk := s.toks) I _ (turn_list a _) ⟨_, Heap.get?_push_size _ rfl, rfl, rfl⟩ q)
theorem it_tup {tg : Expr} {pins : List (Addr × Obj)} {σ : L2.St} {H : Hp} {s : Shared} {R : It → Hp → Prop} {a : Addr} {xs : List V} (I : Inv X pins σ H s) (hq : SqT X.K H a xs) (q : R (Itt X.K a) H) :
    wpAny (model X.prog X.w) X.A (pyIter (.ref a)) (PIE X pins σ tg R) X.xe s := by
  obtain ⟨its, rv, pl, hz⟩ := I.tuple hq
  exact wpAny_pyIter_tuple (show s.heap.IsTuple a its.toArray from pl) (pi_one (tk := s.toks) I _ (turn_tuple a _) ⟨_, Heap.get?_push_size _ rfl, rfl, rfl⟩ q)
theorem it_str {tg : Expr} {pins : List (Addr × Obj)} {σ : L2.St} {H : Hp} {s : Shared} {R : It → Hp → Prop} {z : Str} {t : Tok} (I : Inv X pins σ H s) (q : R (Its z) H) :
    wpAny (model X.prog X.w) X.A (pyIter (.str z t)) (PIE X pins σ tg R) X.xe s := by
  cases hz : z.cps.all (· < 128)
  · exact wpAny_pyIter_wide hz (pi_one (tk := s.toks) I _ (turn_str _ z t "str_iterator" (.inr rfl)) ⟨_, Heap.get?_push_size _ rfl, rfl, rfl⟩ q)
  · exact wpAny_pyIter_ascii hz (pi_one (tk := s.toks) I _ (turn_str _ z t "str_ascii_iterator" (.inl rfl)) ⟨_, Heap.get?_push_size _ rfl, rfl, rfl⟩ q)
def dItems (de : DE) : DI := fun ρ Xd Q => de ρ Xd fun d => ∃ ds, itemsOf d = some ds ∧ Q ds
theorem yl_list {K : PySem.W.Frag} {a : Addr} {ds : List D} : Yl B K (Itl K a) (.ref a) (.lst ds) ds := fun O H ob oa is => by
  cases is with
  | lst ha na ra =>
    rename_i xs
    refine ⟨fun i x hx => ?_, ⟨xs, SqL.of ha, by rw [ra.length]; exact Nat.le_refl _⟩⟩
    obtain ⟨v, hv, iv⟩ := ra.get hx
    exact ⟨⟨xs, v, SqL.of ha, hv⟩, fun y H2 ⟨e, hy⟩ => by
      subst e
      have := hy xs (SqL.of ha)
      rw [hv] at this
      cases this
      exact ⟨Ex.refl _ _, iv⟩⟩
theorem yl_tup {K : PySem.W.Frag} {a : Addr} {ds : List D} : Yl B K (Itt K a) (.ref a) (.tup ds) ds := fun O H ob oa is => by
  cases is with
  | tup ha ra =>
    rename_i xs
    refine ⟨fun i x hx => ?_, ⟨xs, ha, by rw [ra.length]; exact Nat.le_refl _⟩⟩
    obtain ⟨v, hv, iv⟩ := ra.get hx
    exact ⟨⟨xs, v, ha, hv⟩, fun y H2 ⟨e, hy⟩ => by
      subst e
      have := hy xs ha
      rw [hv] at this
      cases this
      exact ⟨Ex.refl _ _, iv⟩⟩
theorem yl_str {K : PySem.W.Frag} {z : Str} : Yl B K (Its z) (.str z) (.str z) (z.cps.toList.map fun c => .str ⟨#[c]⟩) := fun O H ob oa is => by
  cases is with
  | str _ hz =>
    have hsz : z.cps.toList.length = z.cps.size := by simp
    refine ⟨fun i x hx => ?_, by show z.cps.size ≤ _; rw [List.length_map, hsz]; exact Nat.le_refl _⟩
    rw [List.getElem?_map] at hx
    cases q : z.cps.toList[i]? with
    | none => rw [q] at hx; cases hx
    | some c =>
      rw [q] at hx
      cases hx
      have hi : i < z.cps.size := by
        have := (List.getElem?_eq_some_iff.mp q).1
        omega
      have q2 : z.cps[i]? = some c := by rw [← Array.getElem?_toList]; exact q
      exact ⟨hi, fun y H2 ⟨e, c', hc, ey⟩ => by
        subst e ey
        rw [q2] at hc
        cases hc
        exact ⟨Ex.refl _ _, .str _ (okS_one hz (List.mem_of_getElem? q))⟩⟩
theorem iSeq {tg e : Expr} {de : DE} (h : PE X e (upE F Cl W de)) (hK : X.K = F.K := by rfl) : PI X tg e (upI F Cl W (dItems de)) := by
  refine ⟨fun pins s σ H R I ⟨ρ, Xd, Qd, env, hd, xo, k⟩ => ?_⟩
  refine thn (h.run pins s σ H (fun v H' => ∃ d ds, Ex F.B H H' ∧ Is F.B (OS F σ ρ) F.K H' v d ∧ itemsOf d = some ds ∧ Qd ds) I ⟨ρ, Xd, _, env, hd, xo, fun d ⟨ds, h1, h2⟩ v H' x i => ⟨d, ds, x, i, h1, h2⟩⟩) fun v s1 ⟨y, H1, I1, r1, d, ds, x, is, h1, h2⟩ => ?_
  cases is with
  | lst ha na ra =>
    cases r1
    cases h1
    exact it_list I1 (SqL.of ha) (k _ h2 _ _ _ H1 x (.lst ha na ra) (by rw [← hK]; exact yl_list))
  | tup ha ra =>
    cases r1
    cases h1
    exact it_tup I1 (by rw [hK]; exact ha) (k _ h2 _ _ _ H1 x (.tup ha ra) (by rw [← hK]; exact yl_tup))
  | str z hz =>
    obtain ⟨t, rfl⟩ := r1
    cases h1
    exact it_str I1 (k _ h2 _ _ _ H1 x (.str z hz) yl_str)
  | _ => cases h1
/-! ### ranges -/
def intsD (lo : Int) (n : Nat) : List D := (List.range n).map fun i => .int (lo + (i : Nat))
def dRng1 (da : DA) : DI := fun ρ Xd Q => da ρ Xd fun ds => ∃ j, ds = [.int j] ∧ -(2 ^ 62) ≤ j ∧ j < 2 ^ 62 ∧ Q (intsD 0 j.toNat)
def dRng2 (da : DA) : DI := fun ρ Xd Q => da ρ Xd fun ds => ∃ i j, ds = [.int i, .int j] ∧ (-(2 ^ 62) ≤ i ∧ i < 2 ^ 62 ∧ -(2 ^ 62) ≤ j ∧ j < 2 ^ 62) ∧ Q (intsD i (j - i).toNat)
theorem yl_rng {K : PySem.W.Frag} {lo : Int} {n : Nat} : Yl B K (Itr lo n) .non .non (intsD lo n) := fun O H ob oa is => by
  unfold intsD
  refine ⟨fun i x hx => ?_, by show n ≤ _; rw [List.length_map, List.length_range]; exact Nat.le_refl _⟩
  rw [List.getElem?_map] at hx
  by_cases hi : i < n
  · rw [List.getElem?_range hi] at hx
    cases hx
    exact ⟨hi, fun y H2 ⟨e, ey⟩ => by
      subst e ey
      exact ⟨Ex.refl _ _, .int _⟩⟩
  · rw [List.getElem?_eq_none (by rw [List.length_range]; omega)] at hx
    cases hx
theorem iRange1 {tg a : Expr} {p pos : Pos} {da : DA} (hg : Gl X "range") (hm : X.mg "range" = none) (ha : PA X [a] (upA F Cl W da)) (hs : starEach [a] X.env = [(false, eval a X.env)] := by rfl) : PI X tg (.Call (.Name "range" p) [a] [] pos) (upI F Cl W (dRng1 da)) :=
  pi_imp (pi_range1 hg hm ha hs) fun σ H R ⟨ρ, Xd, Qd, env, h, xo, k⟩ => ⟨ρ, Xd, _, env, h, xo, fun ds ⟨j, e, h1, h2, h3⟩ vs H' x is => by
    subst e
    obtain ⟨v, rfl, iv⟩ := one_of is
    cases iv
    exact ⟨j, rfl, h1, h2, k _ h3 _ _ _ H' x .non yl_rng⟩⟩
theorem iRange2 {tg a b : Expr} {p pos : Pos} {da : DA} (hg : Gl X "range") (hm : X.mg "range" = none) (ha : PA X [a, b] (upA F Cl W da)) (hs : starEach [a, b] X.env = [(false, eval a X.env), (false, eval b X.env)] := by rfl) (hs2 : starEach [b] X.env = [(false, eval b X.env)] := by rfl) : PI X tg (.Call (.Name "range" p) [a, b] [] pos) (upI F Cl W (dRng2 da)) :=
  pi_imp (pi_range2 hg hm ha hs hs2) fun σ H R ⟨ρ, Xd, Qd, env, h, xo, k⟩ => ⟨ρ, Xd, _, env, h, xo, fun ds ⟨i, j, e, h1, h3⟩ vs H' x is => by
    subst e
    obtain ⟨v, w, rfl, iv, iw⟩ := two_of is
    cases iv
    cases iw
    exact ⟨i, j, rfl, h1, k _ h3 _ _ _ H' x .non yl_rng⟩⟩
/-! ### comprehensions -/
def wipeR (ρ : Rho) : List Nat → Rho
  | [] => ρ
  | v :: vs => (wipeR ρ vs).set v none
theorem EnvOk.wipe {H : Hp} {σ : L2.St} {ρ : Rho} (e : EnvOk F H σ ρ) : ∀ vs : List Nat, EnvOk F H (L2.wipe σ vs) (wipeR ρ vs)
  | [] => e
  | v :: vs => (EnvOk.wipe e vs).unset
def noOwn (ρ : Rho) (vs : List Nat) : Bool := vs.all fun i => match ρ[i]? with
  | some (some (.own _)) => false
  | _ => true
theorem wipe_get {α : Type} (i : Nat) (n : α) : ∀ (vs : List Nat) (f : List Nat → List α) (l : List α), f [] = l → (∀ v r, f (v :: r) = (f r).set v n) → i ∉ vs → (f vs)[i]? = l[i]?
  | [], f, l, h0, _, _ => by rw [h0]
  | v :: r, f, l, h0, h1, hi => by
    rw [h1, List.getElem?_set_ne (fun e => hi (by rw [e]; exact List.mem_cons_self ..))]
    exact wipe_get i n r f l h0 h1 fun z => hi (List.mem_cons_of_mem _ z)
theorem wipe_in {α : Type} (i : Nat) (n : α) : ∀ (vs : List Nat) (f : List Nat → List α), (∀ v r, f (v :: r) = (f r).set v n) → i ∈ vs → (f vs)[i]? = none ∨ (f vs)[i]? = some n
  | v :: r, f, h1, hi => by
    rw [h1, List.getElem?_set]
    split
    · split
      · exact .inr rfl
      · exact .inl rfl
    · rename_i hne
      rcases List.mem_cons.mp hi with e | e
      · exact absurd e.symm hne
      · exact wipe_in i n r f h1 e
theorem os_wipe {σ : L2.St} {ρ : Rho} {vs : List Nat} (h : noOwn ρ vs = true) {a : Addr} (z : OS F σ ρ a) : OS F (L2.wipe σ vs) (wipeR ρ vs) a := by
  rcases z with z | ⟨i, d, z1, z2⟩
  · exact .inl z
  · have hi : i ∉ vs := fun hm => by
      have q := List.all_eq_true.mp h i hm
      rw [z1] at q
      cases q
    refine .inr ⟨i, d, ?_, ?_⟩
    · rw [wipe_get i none vs (wipeR ρ) ρ rfl (fun _ _ => rfl) hi]; exact z1
    · rw [wipe_get i none vs (L2.wipe σ) σ rfl (fun _ _ => rfl) hi]; exact z2
theorem wipe_agree {σ σ2 : L2.St} {vs : List Nat} (h : Agree vs (L2.wipe σ vs) σ2) : L2.wipe σ2 vs = L2.wipe σ vs := by
  apply List.ext_getElem?
  intro i
  have hl : σ2.length = σ.length := by rw [h.1, wipe_length]
  by_cases hi : i ∈ vs
  · by_cases hlt : i < σ.length
    · have e1 : ∀ (τ : L2.St), i < τ.length → (L2.wipe τ vs)[i]? = some none := fun τ ht => by
        rcases wipe_in i none vs (L2.wipe τ) (fun _ _ => rfl) hi with q | q
        · rw [List.getElem?_eq_none_iff, wipe_length] at q; omega
        · exact q
      rw [e1 σ2 (by omega), e1 σ hlt]
    · rw [List.getElem?_eq_none (by rw [wipe_length]; omega), List.getElem?_eq_none (by rw [wipe_length]; omega)]
  · rw [wipe_get i none vs (L2.wipe σ2) σ2 rfl (fun _ _ => rfl) hi, h.2 i hi]
/-- one item after the other -/
def lcD (tg : DG) (dt : DT) (de : DE) : List D → List D → Rho → (List D → Prop) → Prop
  | [], acc, _, Q => Q acc
  | d :: r, acc, ρ, Q => tg d ρ fun ρ1 => dt ρ1 (fun _ => False) fun c => if c = true then de ρ1 (fun _ => False) (fun y => acc.length < sizeLine ∧ lcD tg dt de r (acc ++ [y]) ρ Q) else lcD tg dt de r acc ρ Q
def dLc (di : DI) (tg : DG) (dt : DT) (de : DE) (vs : List Nat) : DE := fun ρ Xd Q => noOwn ρ vs = true ∧ di ρ Xd fun ds => lcD tg dt de ds [] (wipeR ρ vs) fun acc => Q (.lst acc)
def WF : WX := fun _ _ _ _ => False
/-- within a comprehension -/
abbrev Fx.wg (F : Fx) (g : (V × D) × Addr) : Fx := (F.gh g.1).bar g.2
def dYes : DT := fun _ _ Q => Q true
theorem tYesD : PTs X [] (upT F Cl W dYes) := pts_imp pts_nil fun σ H Q ⟨ρ, Xd, Qd, env, h, xo, k⟩ => k true h H (Ex.refl _ _)
theorem tOneD {c : Expr} {dt : DT} (h : PT X c (upT F Cl W dt)) : PTs X [c] (upT F Cl W dt) := pts_one h
theorem up_lc {di : DI} {tg : DG} {dt : DT} {de : DE} {vs : List Nat} : ∀ σ H Q, upN F Cl W (dLc di tg dt de vs) σ H Q →
    tLc (upI F Cl W di) (fun x σ H Q => ∃ g, upG (F.wg g) vs tg x σ H Q) (fun σ H Q => ∃ g, upT (F.wg g) Cl WF dt σ H Q) (fun σ H Q => ∃ g, upE (F.wg g) Cl WF de σ H Q) vs σ H Q := by
  rintro σ H Q ⟨ρ, Xd, Qd, env, ⟨hno, h⟩, xo, k⟩
  refine ⟨ρ, Xd, _, env, h, xo, fun ds hd J v d H1 e1 is yl D hD => ?_⟩
  have envS : EnvOk (F.wg ((v, d), D)) (upd H1 D (.lst [])) (L2.wipe σ vs) (wipeR ρ vs) := by
    have z := ((env.ex' e1).ghost is).wipe vs
    exact z.bar hD
  have nb : D ≠ F.B.b ∧ D ≠ F.B.l := ⟨fun z => (env.ex' e1).oa F.B.b env.ob (by rw [← z]; exact hD), fun z => (env.ex' e1).oa F.B.l env.ol (by rw [← z]; exact hD)⟩
  have h0 : F.H0 D = none := (env.ex' e1).ex.free hD
  refine ⟨fun i m H' => EnvOk (F.wg ((v, d), D)) H' (L2.wipe σ vs) (wipeR ρ vs) ∧ i ≤ ds.length ∧ m = ds.length - i ∧ Ex F.B H1 H' ∧ ∃ acc xs, H' D = some (.lst xs) ∧ IsL F.B (OS (F.wg ((v, d), D)) (L2.wipe σ vs) (wipeR ρ vs)) F.K H' xs acc ∧ lcD tg dt de (ds.drop i) acc (wipeR ρ vs) (fun acc => Qd (.lst acc)),
    ⟨ds.length, envS, Nat.zero_le _, by simp, Ex.new hD, [], [], upd_same, .nil, by simpa using hd⟩, ?_⟩
  rintro i m H' ⟨env', hle, rfl, x1, acc, xs, hx, ia, hf⟩
  have gi : Is F.B (OS (F.wg ((v, d), D)) (L2.wipe σ vs) (wipeR ρ vs)) F.K H' v d := env'.gh (v, d) (List.mem_cons_self ..)
  obtain ⟨y1, y2⟩ := yl _ H' env'.osb env'.oall gi
  by_cases hlt : i < ds.length
  · have hx2 : ds[i]? = some ds[i] := by simp [hlt]
    rw [List.drop_eq_getElem_cons hlt] at hf
    obtain ⟨z1, z2⟩ := y1 i _ hx2
    refine .inr ⟨z1, fun H2 => EnvOk (F.wg ((v, d), D)) H2 (L2.wipe σ vs) (wipeR ρ vs) ∧ Ex F.B H1 H2 ∧ ∃ acc xs, H2 D = some (.lst xs) ∧ IsL F.B (OS (F.wg ((v, d), D)) (L2.wipe σ vs) (wipeR ρ vs)) F.K H2 xs acc ∧ lcD tg dt de (ds.drop (i + 1)) acc (wipeR ρ vs) (fun acc => Qd (.lst acc)),
      fun H2 ⟨q1, q2, q3⟩ => ⟨ds.length - (i + 1), by omega, q1, hlt, rfl, q2, q3⟩, fun x H2 yd => ?_⟩
    obtain ⟨w1, w2⟩ := z2 x H2 yd
    refine ⟨((v, d), D), wipeR ρ vs, _, _, env'.ex' w1, w2, hf, fun ρ3 q3 σ3 env3 ag agr => ⟨wipe_agree ag, ((v, d), D), ρ3, _, _, env3, q3, fun e he => he.elim, fun c hc H4 x4 => ?_⟩⟩
    have so : ∀ a, OS (F.wg ((v, d), D)) (L2.wipe σ vs) (wipeR ρ vs) a → OS (F.wg ((v, d), D)) σ3 ρ3 a := fun a z => by
      rcases z with z | ⟨j, u, z1, z2⟩
      · exact .inl z
      · have hj : j ∉ vs := fun hm => by
          rcases wipe_in j none vs (wipeR ρ) (fun _ _ => rfl) hm with q | q
          · rw [q] at z1; cases z1
          · rw [q] at z1; cases z1
        exact .inr ⟨j, u, by rw [agr.2 j hj]; exact z1, by rw [ag.2 j hj]; exact z2⟩
    have x14 := w1.trans x4
    have nbD : ∀ {Ha Hb : Hp} {o : HO}, Ex F.B Ha Hb → Ha D = some o → Hb D = some o := fun x e => x.at e nb.1
    cases c with
    | false =>
      show EnvOk _ H4 _ _ ∧ _
      exact ⟨env'.ex' x14, x1.trans x14, acc, xs, nbD x14 hx, ia.ex x14 env'.osb, hc⟩
    | true =>
      refine ⟨((v, d), D), ρ3, _, _, env3.ex' x4, hc, fun e he => he.elim, fun y ⟨hz, hy⟩ u H5 x5 iu => ?_⟩
      have x15 := x14.trans x5
      have hx5 := nbD x15 hx
      have ia5 := ia.ex x15 env'.osb
      have iu5 : Is F.B (OS (F.wg ((v, d), D)) (L2.wipe σ vs) (wipeR ρ vs)) F.K H5 u y := iu.sub (fun a z => .inl (so a z)) env'.osb
      refine ⟨xs, hx5, by rw [ia.length]; exact hz, ?_⟩
      refine ⟨(env'.ex' x15).barMut hx5 h0 nb.1 nb.2, (x1.trans x15).mutN hD nb.1 nb.2, acc ++ [y], xs ++ [u], upd_same, ?_, hy⟩
      exact (ia5.append (.cons iu5 .nil)).mut (.inl (.inr rfl)) hx5 (.inl ⟨_, rfl⟩) nb.1 nb.2
  · have e : i = ds.length := by omega
    subst e
    rw [List.drop_length] at hf
    refine .inl ⟨y2, k _ hf D H' (e1.trans x1) (e1.free hD) (.inl ⟨xs, acc, rfl, hx, ia.sub (fun c z => ?_) (.inl env.osb)⟩)⟩
    rcases z with z | z
    · refine .inl ?_
      rcases os_wipe hno z with q | q
      · exact .inl (.inl q)
      · exact .inr q
    · exact .inl (.inl (.inr z))
abbrev Blk (X : Cx) (scope : Scope) (s : Shared) (H : Hp) (C : Addr) (cl : List (Str × Addr)) (fp : List Addr) : Cx := X.blk s H scope (compEnvC scope cl C X.env) fp
theorem nLc {elt tg iter : Expr} {ifs : List Expr} {scope : Scope} {own : List (Str × Nat)} {pos : Pos} {di : DI} {dg : DG} {dt : DT} {de : DE} (hc : X.calm = true) (hN : X.N.Nodup) (ok : BlkOk X.N X.env.scope scope own) (hi : PI X tg iter (upI F Cl W di))
    (hg : ∀ g s H C cl fp, PG (Blk X scope s H C cl fp) tg (upG (F.wg g) (own.map (·.2)) dg)) (ht : ∀ g s H C cl fp, PTs (Blk X scope s H C cl fp) ifs (upT (F.wg g) Cl WF dt)) (he : ∀ g s H C cl fp, PE (Blk X scope s H C cl fp) elt (upE (F.wg g) Cl WF de))
    (hs : ∀ x, foldedSetIterable iter X.env x = pure x := by intro _; rfl) : PE X (.ListComp elt [⟨tg, iter, ifs, 0⟩] scope pos) (upN F Cl W (dLc di dg dt de (own.map (·.2)))) :=
  pe_imp (pe_lc hc hN hi ok (fun s H C cl fp => pg_ex fun g => hg g s H C cl fp) (fun s H C cl fp => pts_ex fun g => ht g s H C cl fp) (fun s H C cl fp => pe_ex fun g => he g s H C cl fp) hs) up_lc
theorem sLcOwn {i : Nat} {y : Str} {py : Pos} {elt tg iter : Expr} {ifs : List Expr} {scope : Scope} {own : List (Str × Nat)} {pos spos : Pos} {di : DI} {dg : DG} {dt : DT} {de : DE} (hc : X.calm = true) (hN : X.N.Nodup) (hy : X.N[i]? = some y) (hyl : X.env.scope.names.lookup y = some .local)
    (hsw : swapsWith (.ListComp elt [⟨tg, iter, ifs, 0⟩] scope pos) (some (.Name y py)) spos.line X.env = pure true) (ok : BlkOk X.N X.env.scope scope own) (hi : PI X tg iter (upI F Cl W di))
    (hg : ∀ g s H C cl fp, PG (Blk X scope s H C cl fp) tg (upG (F.wg g) (own.map (·.2)) dg)) (ht : ∀ g s H C cl fp, PTs (Blk X scope s H C cl fp) ifs (upT (F.wg g) Cl WF dt)) (he : ∀ g s H C cl fp, PE (Blk X scope s H C cl fp) elt (upE (F.wg g) Cl WF de))
    (hs : ∀ x, foldedSetIterable iter X.env x = pure x := by intro _; rfl) : PS X (.Assign [.Name y py] (.ListComp elt [⟨tg, iter, ifs, 0⟩] scope pos) spos) (upS F Cl W (dOwn i (dLc di dg dt de (own.map (·.2))))) :=
  ps_imp (ps_setLc hc hN hy hyl hsw hi ok (fun s H C cl fp => pg_ex fun g => hg g s H C cl fp) (fun s H C cl fp => pts_ex fun g => ht g s H C cl fp) (fun s H C cl fp => pe_ex fun g => he g s H C cl fp) hs) fun D σ H ⟨ρ, De, env, h, k1, k2, k3, k4, k5⟩ =>
    up_lc σ H _ ⟨ρ, De.ex ρ, _, env, h, xo_of env k5, fun d hd a H' x n o => k1 _ hd _ H' (env.setOwn x n o)⟩
theorem sLcSet {i : Nat} {y : Str} {py : Pos} {elt tg iter : Expr} {ifs : List Expr} {scope : Scope} {own : List (Str × Nat)} {pos spos : Pos} {di : DI} {dg : DG} {dt : DT} {de : DE} (hc : X.calm = true) (hN : X.N.Nodup) (hy : X.N[i]? = some y) (hyl : X.env.scope.names.lookup y = some .local)
    (hsw : swapsWith (.ListComp elt [⟨tg, iter, ifs, 0⟩] scope pos) (some (.Name y py)) spos.line X.env = pure true) (ok : BlkOk X.N X.env.scope scope own) (hi : PI X tg iter (upI F Cl W di))
    (hg : ∀ g s H C cl fp, PG (Blk X scope s H C cl fp) tg (upG (F.wg g) (own.map (·.2)) dg)) (ht : ∀ g s H C cl fp, PTs (Blk X scope s H C cl fp) ifs (upT (F.wg g) Cl WF dt)) (he : ∀ g s H C cl fp, PE (Blk X scope s H C cl fp) elt (upE (F.wg g) Cl WF de))
    (hs : ∀ x, foldedSetIterable iter X.env x = pure x := by intro _; rfl) : PS X (.Assign [.Name y py] (.ListComp elt [⟨tg, iter, ifs, 0⟩] scope pos) spos) (upS F Cl W (dAsg i (dLc di dg dt de (own.map (·.2))))) :=
  ps_imp (ps_setLc hc hN hy hyl hsw hi ok (fun s H C cl fp => pg_ex fun g => hg g s H C cl fp) (fun s H C cl fp => pts_ex fun g => ht g s H C cl fp) (fun s H C cl fp => pe_ex fun g => he g s H C cl fp) hs) fun D σ H ⟨ρ, De, env, h, k1, k2, k3, k4, k5⟩ =>
    up_lc σ H _ ⟨ρ, De.ex ρ, _, env, h, xo_of env k5, fun d hd a H' x n o => k1 _ hd _ H' ((env.ex' x).set (OwnAt.is o (fun _ z => .inl z) env.osb fun z => env.oall a z n))⟩
/-! ### while -/
def dWhile (c : DT) (b : DS) : DS := fun De ρ => ∃ I : Nat → Rho → Prop, (∃ m, I m ρ) ∧ ∀ m ρ, I m ρ → c ρ (De.ex ρ) fun t => if t = true then b { De with nx := fun ρ' => ∃ m', m' < m ∧ I m' ρ', ct := fun ρ' => ∃ m', m' < m ∧ I m' ρ', bk := De.nx } ρ else De.nx ρ
theorem sWhile {c : Expr} {body : List Stmt} {pos : Pos} {dt : DT} {db : DS} (hp : PassesOwn (model X.prog X.w) X.A X.env X.xe) (hc : PT X c (upT F Cl W dt)) (hb : PSs X body (upS F Cl W db)) : PS X (.While c body [] pos) (upS F Cl W (dWhile dt db)) := by
  refine ps_imp (ps_while hp hc hb) fun D σ H ⟨ρ, De, env, ⟨I, ⟨m, hm⟩, h⟩, k1, k2, k3, k4, k5⟩ => ?_
  refine ⟨fun m σ H => ∃ ρ, EnvOk F H σ ρ ∧ I m ρ, ⟨m, ρ, env, hm⟩, fun m σ H ⟨ρ, env, hi⟩ => ?_⟩
  refine ⟨ρ, De.ex ρ, _, env, h m ρ hi, xo_of env k5, fun t ht H1 x => ?_⟩
  cases t with
  | false => exact k1 ρ ht σ H1 (env.ex' x)
  | true =>
    refine ⟨fun σ' H' => ∃ m', m' < m ∧ ∃ ρ', EnvOk F H' σ' ρ' ∧ I m' ρ', fun σ' H' ⟨m', q1, ρ', q2, q3⟩ => ⟨m', q1, ρ', q2, q3⟩, ?_⟩
    exact ⟨ρ, _, env.ex' x, ht, fun ρ' ⟨m', q1, q2⟩ σ' H' e' => ⟨m', q1, ρ', e', q2⟩, k2, fun ρ' q σ' H' e' => k1 ρ' q σ' H' e', fun ρ' ⟨m', q1, q2⟩ σ' H' e' => ⟨m', q1, ρ', e', q2⟩, k5⟩
/-! ### code that is never come to -/
def dNever : DS := fun _ _ => False
theorem sNever {sts : List Stmt} : PSs X sts (upS F Cl W dNever) := pss_imp pss_never fun D σ H ⟨_, _, _, h, _⟩ => h
def dNo : DE := fun _ _ _ => False
theorem xNo {e : Expr} : PE X e (upE F Cl W dNo) := ⟨fun _ _ _ _ _ _ ⟨_, _, _, _, h, _⟩ => h.elim⟩
theorem yNo {e : Expr} : PT X e (upT F Cl W fun _ _ _ => False) := ⟨fun _ _ _ _ _ _ ⟨_, _, _, _, h, _⟩ => h.elim⟩
end
end HD
/-! HD7: own lists read, methods of texts. -/
namespace HD
open PySem PyProof.Rows L2
section
variable {X : Cx} {F : Fx} {Cl : Str → Addr} {W : WX} {B : Bg}
theorem flat_is {O O' : Addr → Prop} {K : PySem.W.Frag} {H : Hp} {v : V} {d : D} (h : Is B O K H v d) (f : flatD d = true) : Is B O' K H v d := by
  cases h with
  | non => exact .non
  | bl c => exact .bl c
  | int i => exact .int i
  | str s h => exact .str s h
  | _ => cases f
/-- an own list or dict as a value, for a while -/
theorem EnvOk.lend {H : Hp} {σ : L2.St} {ρ : Rho} (env : EnvOk F H σ ρ) {i : Nat} {d : D} (h : ρ[i]? = some (some (.own d))) : ∃ (a : Addr) (O' : Addr → Prop), σ[i]? = some (some (.ref a)) ∧ O' F.B.b ∧ O' F.B.l ∧ (∀ c, O' c → OS F σ ρ c) ∧ (∀ c, O' c → H c ≠ none) ∧ Is F.B O' F.K H (.ref a) d := by
  obtain ⟨a, ha, o, h0, hO⟩ := env.own i d h
  refine ⟨a, fun c => OS F σ ρ c ∧ c ≠ a, ha, ⟨env.osb, (env.nb hO).1.symm⟩, ⟨.inl env.ol, (env.nb hO).2.symm⟩, fun c z => z.1, fun c z => env.oall c z.1, ?_⟩
  exact OwnAt.is o (fun c z => z.1) ⟨env.osb, (env.nb hO).1.symm⟩ fun z => z.2 rfl
/-- a op own -/
def dOpOwn (r : D2) (da : DE) (i : Nat) : DE := fun ρ Xd Q => ∃ d, ρ[i]? = some (some (.own d)) ∧ da ρ Xd fun x => r x d fun z => flatD z = true ∧ Q z
theorem up_opOwn {r : R2} {r' : D2} {da : DE} {i : Nat} (hs : OpS F.B F.K r r') : ∀ σ H Q, upE F Cl W (dOpOwn r' da i) σ H Q → tOp r (upE F Cl W da) (tVar i) σ H Q := fun σ H Q ⟨ρ, Xd, Qd, env, ⟨d, hd, h1⟩, xo, k⟩ =>
  ⟨ρ, Xd, _, env, h1, xo, fun dx hx x H1 e1 i1 => by
    obtain ⟨a, O', ha, ob, ol, s, oa, is⟩ := (env.ex' e1).lend hd
    refine ⟨.ref a, ha, hs O' H1 x (.ref a) dx d _ Q ob oa (i1.sub (fun c z => .inl (s c z)) ob) is hx fun z ⟨hf, hz⟩ v H' e3 i3 => k z hz v H' (e1.trans e3) (flat_is i3 hf)⟩⟩
theorem xCmpOwn {a b : Expr} {op : CmpOp} {pos : Pos} {r' : D2} {da : DE} {i : Nat} (ho : OpD X F.B (compareOp op) r') (ha : PE X a (upE F Cl W da)) (hb : PE X b (tVar i)) (hm : behindInMarks op b = false := by rfl) (hK : X.K = F.K := by rfl) : PE X (.Compare a [op] [b] pos) (upE F Cl W (dOpOwn r' da i)) := by
  obtain ⟨r, h1, h2⟩ := ho
  exact pe_imp (pe_cmpR h1 ha hb hm) (up_opOwn (by rw [← hK]; exact h2))
theorem yCmpOwn {a b : Expr} {op : CmpOp} {pos : Pos} {r' : D2} {da : DE} {i : Nat} (ho : OpD X F.B (compareOp op) r') (ha : PE X a (upE F Cl W da)) (hb : PE X b (tVar i)) (hm : behindInMarks op b = false := by rfl) (hK : X.K = F.K := by rfl) : PT X (.Compare a [op] [b] pos) (upT F Cl W (dTest (dOpOwn r' da i))) := by
  obtain ⟨r, h1, h2⟩ := ho
  exact pt_imp (pt_cmpR h1 ha hb hm) fun σ H Q h => up_opOwn (by rw [← hK]; exact h2) σ H _ (up_test σ H Q h)
/-- f(own) of a built-in, a flat answer -/
def dCBOwn (r : DR) (i : Nat) : DE := fun ρ Xd Q => ∃ d, ρ[i]? = some (some (.own d)) ∧ r [d] fun z => flatD z = true ∧ Q z
theorem xCallBOwn {x : Str} {p pos : Pos} {id : String} {e : Expr} {r' : DR} {i : Nat} (hc : CallD X F.B (.builtin id) r') (hg : Gl X x) (hm : X.mg x = none) (hv : bootBuiltins x = some (.builtin id)) (ha : PE X e (tVar i))
    (hn : x ≠ "__name__" := by decide) (hdb : (x == ("__debug__" : Str)) = false := by decide) (he : starEach [e] X.env = (false, eval e X.env) :: starEach [] X.env := by rfl) (hpl : (backTo pos (starEach [] X.env)).any (·.1) = false := by rfl) (hK : X.K = F.K := by rfl) :
    PE X (.Call (.Name x p) [e] [] pos) (upE F Cl W (dCBOwn r' i)) := by
  obtain ⟨r, h1, h2⟩ := hc
  refine pe_imp (pe_callB h1 hg hm hv (pa_cons ha pa_nil he) hn hdb he hpl) fun σ H Q ⟨ρ, Xd, Qd, env, ⟨d, hd, h⟩, xo, k⟩ => ?_
  obtain ⟨a, O', ha, ob, ol, s, oa, is⟩ := env.lend hd
  exact ⟨.ref a, ha, h2 O' H [.ref a] [d] _ Q ob oa (by rw [hK]; exact .cons is .nil) h fun z ⟨hf, hz⟩ v H' e3 i3 => k z hz v H' e3 (flat_is (by rw [← hK]; exact i3) hf)⟩
/-- own[k], an item that knows no list -/
def dIxOwn (i : Nat) (db : DE) : DE := fun ρ Xd Q => ∃ ds, ρ[i]? = some (some (.own (.lst ds))) ∧ db ρ Xd fun y => ∃ k d, y = .int k ∧ atI ds k = some d ∧ Q d
theorem xIxOwn {a b : Expr} {pos : Pos} {db : DE} {i : Nat} (ha : PE X a (tVar i)) (hb : PE X b (upE F Cl W db)) (hs : PlainIx b := by exact fun _ _ => rfl) (hK : X.K = F.K := by rfl) : PE X (.Subscript a b pos) (upE F Cl W (dIxOwn i db)) := by
  refine pe_imp (pe_ix ix_list ha hb hs) fun σ H Q ⟨ρ, Xd, Qd, env, ⟨ds, hd, h⟩, xo, k⟩ => ?_
  obtain ⟨a, ha, o, h0, hO⟩ := env.own i _ hd
  rcases o with ⟨xs, ds', e1, e2, e3⟩ | ⟨_, _, _, e1, _⟩
  · cases e1
    refine ⟨.ref a, ha, ρ, Xd, _, env, h, xo, fun y ⟨j, d, ey, hj, hq⟩ v H1 x1 iv => ?_⟩
    subst ey
    cases iv
    obtain ⟨u, hu, iu⟩ := atI_is (e3.ex x1 env.osb) hj
    exact ⟨a, xs, j, u, rfl, rfl, SqL.of (x1.at e2 (env.nb hO).1), hu, k _ hq _ H1 x1 iu⟩
  · cases e1
/-! ### methods of texts -/
def dJoin (da db : DE) : DE := fun ρ Xd Q => da ρ Xd fun x => ∃ s, x = .str s ∧ db ρ Xd fun y => ∃ ys : List Str, (y = .lst (ys.map D.str) ∨ y = .tup (ys.map D.str)) ∧ (ys.map (·.length)).sum + ys.length * s.length ≤ 16777216 ∧ okS (Txt.join s ys) ∧ Q (.str (Txt.join s ys))
theorem xJoin {o e : Expr} {apos pos : Pos} {da db : DE} (ha : PE X o (upE F Cl W da)) (hb : PE X e (upE F Cl W db)) (hs : starEach [e] X.env = [(false, eval e X.env)] := by rfl) (hbase : attributeBase o "join" X.env (eval o X.env) = eval o X.env := by rfl) (hline : (apos.endLine == pos.line) = true := by rfl) (hK : X.K = F.K := by rfl) :
    PE X (.Call (.Attribute o "join" apos) [e] [] pos) (upE F Cl W (dJoin da db)) := pe_imp (pe_join ha hb hs hbase hline) fun σ H Q ⟨ρ, Xd, Qd, env, h, xo, k⟩ => by
  refine ⟨ρ, Xd, _, env, h, xo, fun d ⟨s, hd, h2⟩ v H1 x1 iv => ?_⟩
  subst hd
  cases iv with
  | str _ hs0 =>
    refine ⟨⟨s, rfl⟩, ρ, Xd, _, env.ex' x1, h2, xo.ex x1, fun y ⟨ys, hy, hz, hk, hq⟩ u H2 x2 iu => ?_⟩
    have fin := k _ hq (.str (Txt.join s ys)) H2 (x1.trans x2) (.str _ hk)
    rcases hy with hy | hy
    · subst hy
      cases iu with
      | lst ha' na ra => exact ⟨s, _, ys, rfl, rfl, .inl (by rw [← (strs_of ra).1]; exact SqL.of ha'), hz, fin⟩
    · subst hy
      cases iu with
      | tup ha' ra => exact ⟨s, _, ys, rfl, rfl, .inr (by rw [← (strs_of ra).1, hK]; exact ha'), hz, fin⟩
def dStarts (da : DE) (db : DA) : DE := fun ρ Xd Q => da ρ Xd fun x => ∃ s, x = .str s ∧ db ρ Xd fun ys => ∃ t i, ys = [.str t, .int i] ∧ Q (.bl (Txt.startswith3 s t i))
theorem xStarts {o e1 e2 : Expr} {apos pos : Pos} {da : DE} {db : DA} (ha : PE X o (upE F Cl W da)) (hb : PA X [e1, e2] (upA F Cl W db)) (hbase : attributeBase o "startswith" X.env (eval o X.env) = eval o X.env := by rfl)
    (hfew : ((backTo pos (starEach [e1, e2] X.env)).all (fun x => !x.1) && (backToKw pos (keywordEach [] X.env)).all (fun x => x.1.isSome) && decide ([e1, e2].length + ([] : List Keyword).length + (if ([] : List Keyword).isEmpty then 0 else 1) < 30)) = true := by rfl)
    (hline : (apos.endLine == pos.line) = true := by rfl) (hs : starEach [e1, e2] X.env = (false, eval e1 X.env) :: starEach [e2] X.env := by rfl) (hplain : (backTo pos (starEach [e2] X.env)).any (·.1) = false := by rfl) :
    PE X (.Call (.Attribute o "startswith" apos) [e1, e2] [] pos) (upE F Cl W (dStarts da db)) := pe_imp (pe_bm PySem.F.plainAttrs_str PySem.F.slot_str_startswith PySem.F.type_str_startswith mt_startswith3 ha hb hbase hfew hline hs hplain) fun σ H Q ⟨ρ, Xd, Qd, env, h, xo, k⟩ => by
  refine ⟨ρ, Xd, _, env, h, xo, fun d ⟨s, hd, h2⟩ v H1 x1 iv => ?_⟩
  subst hd
  cases iv
  refine ⟨rfl, ρ, Xd, _, env.ex' x1, h2, xo.ex x1, fun ys ⟨t, i, hy, hq⟩ us H2 x2 iu => ?_⟩
  subst hy
  obtain ⟨u1, u2, rfl, i1, i2⟩ := two_of iu
  cases i1
  cases i2
  exact ⟨s, t, i, rfl, rfl, k _ hq _ H2 (x1.trans x2) (.bl _)⟩
/-! ### a written table: text keys, int values -/
def dInTab (neg : Bool) (tab : List (Str × D)) (da : DE) : DE := fun ρ Xd Q => da ρ Xd fun x => ∃ s, x = .str s ∧ Q (.bl (neg ^^ (tab.lookup s).isSome))
def dIxTab (tab : List (Str × D)) (da : DE) : DE := fun ρ Xd Q => da ρ Xd fun x => ∃ s d, x = .str s ∧ tab.lookup s = some d ∧ Q d
/-- the dict at a of the top: these keys and values -/
structure TabAt (X : Cx) (a : Addr) (tab : List (Str × D)) : Prop where
  dict : ∃ es n, KDict X.K X.w a es n
  has : ∀ (s : Str) (d : D), tab.lookup s = some d → ∃ u v, PySem.W.nsIn X.K a s = some (some u) ∧ RelV v u ∧ ∀ B O H, Is B O X.K H v d
  not : ∀ (s : Str), tab.lookup s = none → PySem.W.nsIn X.K a s = some none
theorem xInTab {a b : Expr} {pos : Pos} {da : DE} {p : Addr} {tab : List (Str × D)} (T : TabAt X p tab) (ha : PE X a (upE F Cl W da)) (hb : PE X b (tC (.ref p))) (hm : behindInMarks .In b = false := by rfl) : PE X (.Compare a [.In] [b] pos) (upE F Cl W (dInTab false tab da)) := by
  obtain ⟨es, n, kd⟩ := T.dict
  refine pe_imp (pe_cmpR (op_in_kd kd) ha hb hm) fun σ H Q ⟨ρ, Xd, Qd, env, h, xo, k⟩ => ⟨ρ, Xd, _, env, h, xo, fun d ⟨s, hd, q⟩ v H1 x1 iv => ?_⟩
  subst hd
  cases iv
  rw [xor_f] at q
  cases e : tab.lookup s with
  | none => rw [e] at q; exact ⟨s, none, rfl, rfl, T.not s e, k _ q _ H1 x1 (.bl _)⟩
  | some d =>
    rw [e] at q
    obtain ⟨u, w, h1, _⟩ := T.has s d e
    exact ⟨s, some u, rfl, rfl, h1, k _ q _ H1 x1 (.bl _)⟩
theorem xNotInTab {a b : Expr} {pos : Pos} {da : DE} {p : Addr} {tab : List (Str × D)} (T : TabAt X p tab) (ha : PE X a (upE F Cl W da)) (hb : PE X b (tC (.ref p))) (hm : behindInMarks .NotIn b = false := by rfl) : PE X (.Compare a [.NotIn] [b] pos) (upE F Cl W (dInTab true tab da)) := by
  obtain ⟨es, n, kd⟩ := T.dict
  refine pe_imp (pe_cmpR (op_notIn_kd kd) ha hb hm) fun σ H Q ⟨ρ, Xd, Qd, env, h, xo, k⟩ => ⟨ρ, Xd, _, env, h, xo, fun d ⟨s, hd, q⟩ v H1 x1 iv => ?_⟩
  subst hd
  cases iv
  rw [xor_t] at q
  cases e : tab.lookup s with
  | none => rw [e] at q; exact ⟨s, none, rfl, rfl, T.not s e, k _ q _ H1 x1 (.bl _)⟩
  | some d =>
    rw [e] at q
    obtain ⟨u, w, h1, _⟩ := T.has s d e
    exact ⟨s, some u, rfl, rfl, h1, k _ q _ H1 x1 (.bl _)⟩
theorem yInTab {a b : Expr} {pos : Pos} {da : DE} {p : Addr} {tab : List (Str × D)} (T : TabAt X p tab) (ha : PE X a (upE F Cl W da)) (hb : PE X b (tC (.ref p))) (hm : behindInMarks .In b = false := by rfl) : PT X (.Compare a [.In] [b] pos) (upT F Cl W (dTest (dInTab false tab da))) := by
  obtain ⟨es, n, kd⟩ := T.dict
  refine pt_imp (pt_cmpR (op_in_kd kd) ha hb hm) fun σ H Q h => ?_
  obtain ⟨ρ, Xd, Qd, env, h, xo, k⟩ := up_test σ H Q h
  refine ⟨ρ, Xd, _, env, h, xo, fun d ⟨s, hd, q⟩ v H1 x1 iv => ?_⟩
  subst hd
  cases iv
  rw [xor_f] at q
  cases e : tab.lookup s with
  | none => rw [e] at q; exact ⟨s, none, rfl, rfl, T.not s e, k _ q _ H1 x1 (.bl _)⟩
  | some d =>
    rw [e] at q
    obtain ⟨u, w, h1, _⟩ := T.has s d e
    exact ⟨s, some u, rfl, rfl, h1, k _ q _ H1 x1 (.bl _)⟩
theorem yNotInTab {a b : Expr} {pos : Pos} {da : DE} {p : Addr} {tab : List (Str × D)} (T : TabAt X p tab) (ha : PE X a (upE F Cl W da)) (hb : PE X b (tC (.ref p))) (hm : behindInMarks .NotIn b = false := by rfl) : PT X (.Compare a [.NotIn] [b] pos) (upT F Cl W (dTest (dInTab true tab da))) := by
  obtain ⟨es, n, kd⟩ := T.dict
  refine pt_imp (pt_cmpR (op_notIn_kd kd) ha hb hm) fun σ H Q h => ?_
  obtain ⟨ρ, Xd, Qd, env, h, xo, k⟩ := up_test σ H Q h
  refine ⟨ρ, Xd, _, env, h, xo, fun d ⟨s, hd, q⟩ v H1 x1 iv => ?_⟩
  subst hd
  cases iv
  rw [xor_t] at q
  cases e : tab.lookup s with
  | none => rw [e] at q; exact ⟨s, none, rfl, rfl, T.not s e, k _ q _ H1 x1 (.bl _)⟩
  | some d =>
    rw [e] at q
    obtain ⟨u, w, h1, _⟩ := T.has s d e
    exact ⟨s, some u, rfl, rfl, h1, k _ q _ H1 x1 (.bl _)⟩
theorem xIxTab {a b : Expr} {pos : Pos} {db : DE} {p : Addr} {tab : List (Str × D)} (T : TabAt X p tab) (ha : PE X a (tC (.ref p))) (hb : PE X b (upE F Cl W db)) (hs : PlainIx b := by exact fun _ _ => rfl) (hK : X.K = F.K := by rfl) : PE X (.Subscript a b pos) (upE F Cl W (dIxTab tab db)) := by
  obtain ⟨es, n, kd⟩ := T.dict
  refine pe_imp (pe_ix ix_kdict ha hb hs) fun σ H Q ⟨ρ, Xd, Qd, env, h, xo, k⟩ => ⟨ρ, Xd, _, env, h, xo, fun x ⟨s, d, hx, hd, q⟩ v H1 x1 iv => ?_⟩
  subst hx
  cases iv
  obtain ⟨u, w, h1, h2, h3⟩ := T.has s d hd
  exact ⟨p, s, w, rfl, rfl, ⟨es, n, u, kd.at_, kd.lit, h1, h2⟩, k _ q _ H1 x1 (by rw [← hK]; exact h3 _ _ _)⟩
end
end HD
/-! HD8: short words for printed derivations. -/
namespace HD
open PySem PyProof.Rows L2
abbrev rSub : D2 := rInts CT fun i j => .int (i - j)
abbrev rMul : D2 := rInts CMul fun i j => .int (i * j)
abbrev rMod : D2 := rInts (fun _ j => 0 < j) fun i j => .int (i % j)
abbrev rFd : D2 := rInts CDivW fun i j => .int (i / j)
abbrev rLt : D2 := rInts CT fun i j => .bl (decide (i < j))
abbrev rLe : D2 := rInts CT fun i j => .bl (decide (i ≤ j))
abbrev rGt : D2 := rInts CT fun i j => .bl (decide (j < i))
abbrev rGe : D2 := rInts CT fun i j => .bl (decide (j ≤ i))
section
variable {X : Cx} {F : Fx} {Cl : Str → Addr} {W : WX}
theorem hu65 {k : Nat} {A : Around} (r : Room k A) : A.units + 65 < cLine := by have := r.un; omega
theorem hu64 {k : Nat} {A : Around} (r : Room k A) : A.units + 64 < cLine := by have := r.un; omega
theorem xGStr {x z : Str} {pos : Pos} (h : ∃ t, X.mg x = some (.str z t)) (ok : okS z) (hg : Gl X x := by rfl) (hd : (x == ("__debug__" : Str)) = false := by decide) : PE X (.Name x pos) (upE F Cl W (dC (.str z))) := by
  obtain ⟨t, e⟩ := h
  exact pe_imp (pe_glob (v := .str z) hg e ⟨t, rfl⟩ hd) fun σ H Q ⟨ρ, Xd, Qd, env, h1, xo, k⟩ => k _ h1 _ H (Ex.refl _ _) (.str z ok)
theorem xGInt {x : Str} {i : Int} {pos : Pos} (h : ∃ t, X.mg x = some (.int i t)) (hg : Gl X x := by rfl) (hd : (x == ("__debug__" : Str)) = false := by decide) : PE X (.Name x pos) (upE F Cl W (dC (.int i))) := by
  obtain ⟨t, e⟩ := h
  exact pe_imp (pe_glob (v := .int i) hg e ⟨t, rfl⟩ hd) fun σ H Q ⟨ρ, Xd, Qd, env, h1, xo, k⟩ => k _ h1 _ H (Ex.refl _ _) (.int i)
/-- a tuple of texts of the top -/
theorem strs_is {B : Bg} {O : Addr → Prop} {K : PySem.W.Frag} {H : Hp} : ∀ {zs : List Str}, (∀ z ∈ zs, okS z) → IsL B O K H (zs.map V.str) (zs.map D.str)
  | [], _ => .nil
  | z :: r, h => .cons (.str z (h z (List.mem_cons_self ..))) (strs_is fun y hy => h y (List.mem_cons_of_mem _ hy))
theorem xGTup {x : Str} {a : Addr} {zs : List Str} {pos : Pos} (h : X.mg x = some (.ref a)) (t : ∀ H, SqT X.K H a (zs.map V.str)) (ok : (zs.all fun z => decide (z.length ≤ 1000) && PySem.PyData.strOk z) = true) (hg : Gl X x := by rfl) (hd : (x == ("__debug__" : Str)) = false := by decide) (hK : X.K = F.K := by rfl) : PE X (.Name x pos) (upE F Cl W (dC (.tup (zs.map D.str)))) :=
  pe_imp (pe_glob (v := .ref a) hg h rfl hd) fun σ H Q ⟨ρ, Xd, Qd, env, h1, xo, k⟩ => k _ h1 _ H (Ex.refl _ _) (.tup (by rw [← hK]; exact t H) (strs_is fun z hz => okS_by (List.all_eq_true.mp ok z hz)))
/-- a written table's name -/
theorem pGRef {x : Str} {a : Addr} {pos : Pos} (h : X.mg x = some (.ref a)) (hg : Gl X x := by rfl) (hd : (x == ("__debug__" : Str)) = false := by decide) : PE X (.Name x pos) (tC (.ref a)) := pe_glob hg h rfl hd
theorem sAppendX {i : Nat} {x : Str} {e : Expr} {p1 p2 p3 pos : Pos} {de : DE} (hv : PE X (.Name x p1) (tVar i)) (h : PE X e (upE F Cl W de)) (hs : swapsWith (.Call (.Attribute (.Name x p1) "append" p2) [e] [] p3) none pos.line X.env = pure false := by rfl)
    (hbase : attributeBase (.Name x p1) "append" X.env (eval (.Name x p1) X.env) = eval (.Name x p1) X.env := by rfl)
    (hfew : ((backTo p3 (starEach [e] X.env)).all (fun x => !x.1) && (backToKw p3 (keywordEach [] X.env)).all (fun x => x.1.isSome) && decide ([e].length + ([] : List Keyword).length + (if ([] : List Keyword).isEmpty then 0 else 1) < 30)) = true := by rfl)
    (hline : (p2.endLine == p3.line) = true := by rfl) (hst : starEach [e] X.env = (false, eval e X.env) :: starEach [] X.env := by rfl) (hplain : (backTo p3 (starEach [] X.env)).any (·.1) = false := by rfl) (hK : X.K = F.K := by rfl) :
    PS X (.Expr (.Call (.Attribute (.Name x p1) "append" p2) [e] [] p3) pos) (upS F Cl W (dAppend i de)) :=
  sAppend hv h hs (fun r to t hr h1 h2 => pe_bm PySem.F.plainAttrs_list PySem.F.slot_list_append PySem.F.type_list_append hr h1 h2 hbase hfew hline hst hplain) hst hK
/-- a def that is never called -/
theorem has_false {P : Program} {w : World} {K : PySem.W.Frag} {mg : Str → Option Value} {base : Heap} {x qual : Str} {params : Arguments} {body : List Stmt} {scope : Scope} {kws : List (Str × V)} {f : Addr} {fd : FuncData} {ps : List Str} {k : Nat}
    (D : FunD K x qual params body scope [] kws f fd) (g : mg x = some (.ref f)) (b : Binds K fd ps []) : Has P w K mg base Cl x k (fun _ _ _ => False) :=
  ⟨f, fd, ps, g, D.kp, b, ⟨fun _ _ _ _ ⟨_, _, _, _, _, _, _, _, _, h, _⟩ => h.elim, fun _ _ _ _ _ _ _ _ _ _ _ _ _ ⟨_, _, _, _, _, _, _, _, _, h, _⟩ => h.elim⟩⟩
theorem po_of {K : Value → Shared → Prop} {E₁ : Value → Shared → Prop} (hx : X.xe = fun e s' => wpAny (model X.prog X.w) X.A (leaving X.env e) (fun _ s'' => K e s'') E₁ s') : PassesOwn (model X.prog X.w) X.A X.env X.xe := passes_of hx
end
end HD
/-! HD9: the bag, a draw, the law's own def. -/
namespace HD
open PySem PyProof.Rows L2
/-- a draw: any number below the one that is asked -/
def m_draw : DFn := fun ds _ Q => ∃ m : Int, ds = [.bag, .int m] ∧ 0 < m ∧ m < 2 ^ 4000 ∧ ∀ r : Int, 0 ≤ r → r < m → Q (.int r)
/-- _law_bag: a new bag -/
def spBag (K : PySem.W.Frag) : Sp := fun vs H Q _ => ∃ (a : Addr) (ns : List Int), vs = [.ref a] ∧ SqL K H a (ns.map V.int) ∧ ∀ (B : Bg) (H' : Hp), (∀ c o, H c = some o → H' c = some o) → H B.b = none → H B.l = none → BagAt B H' → Q (.ref B.b) H'
/-- what _law_draw is to do with the bag at B -/
theorem Is.bag_b {B : Bg} {O : Addr → Prop} {K : PySem.W.Frag} {H : Hp} {v : V} (h : Is B O K H v .bag) : v = .ref B.b ∧ BagAt B H := by
  cases h with
  | bag h o => exact ⟨rfl, h⟩
theorem ex_bag {B : Bg} {H : Hp} {xs ys : List V} (hb : H B.b = some (.lst xs)) (h : BagAt B (upd H B.b (.lst ys))) : Ex B H (upd H B.b (.lst ys)) := ⟨fun a o e => by
    by_cases z : a = B.b
    · subst z
      rw [hb] at e
      cases e
      exact .inr ⟨rfl, xs, rfl⟩
    · exact .inl (by rw [upd_ne z]; exact e), fun a o e => by
    by_cases z : a = B.b
    · subst z
      exact ⟨_, upd_same⟩
    · exact ⟨o, by rw [upd_ne z]; exact e⟩, fun _ => h⟩
theorem draw_end {Cl : Str → Addr} {K : PySem.W.Frag} {vs : List V} {H : Hp} {Q : VK} {E : XK} (h : spF Cl K m_draw vs H Q E) : ∃ (B : Bg) (m : Int), vs = [.ref B.b, .int m] ∧ 0 < m ∧ m < 2 ^ 4000 ∧ BagAt B H ∧ ∀ (r : Int) (H' : Hp), 0 ≤ r → r < m → Ex B H H' → Q (.int r) H' := by
  obtain ⟨B, O, ds, Xd, Qd, ob, ol, oa, r, ⟨m, rfl, h1, h2, h3⟩, kx, kq⟩ := h
  obtain ⟨v, w, rfl, iv, iw⟩ := two_of r
  obtain ⟨rfl, hb⟩ := iv.bag_b
  cases iw
  exact ⟨B, m, rfl, h1, h2, hb, fun r H' h4 h5 x => kq _ (h3 r h4 h5) _ H' x (.int _)⟩
end HD
/-! HD10: the head's hook with tables of plain values and further checks. -/
namespace HD
open PySem PyProof.Rows L2
/-- a table's entry against a key and a number -/
def entB (e : DictEntry) (q : Str × Int) : Bool := match e.key, e.val with
  | .str x _, .int i _ => decide (x = q.1) && decide (i = q.2)
  | _, _ => false
def entsB : List DictEntry → List (Str × Int) → Bool
  | [], [] => true
  | e :: r, q :: qs => entB e q && entsB r qs
  | _, _ => false
theorem entB_ok {e : DictEntry} {q : Str × Int} (h : entB e q = true) : (∃ t, e.key = .str q.1 t) ∧ ∃ t, e.val = .int q.2 t := by
  unfold entB at h
  split at h
  · rename_i x t i u h1 h2
    obtain ⟨a, b⟩ := He.ba h
    have ea := of_decide_eq_true a
    have eb := of_decide_eq_true b
    subst ea eb
    exact ⟨⟨t, h1⟩, ⟨u, h2⟩⟩
  · cases h
def dtab (tab : List (Str × Int)) : List (Str × D) := tab.map fun q => (q.1, D.int q.2)
theorem ents_find : ∀ {l : List DictEntry} {tab : List (Str × Int)} (s : Str), entsB l tab = true →
    (match (dtab tab).lookup s with
      | some d => ∃ (e : DictEntry) (i : Int) (t : Tok), l.find? (fun z => z.key.isStr s) = some e ∧ e.val = .int i t ∧ d = .int i
      | none => l.find? (fun z => z.key.isStr s) = none ∧ l.any (fun z => z.refKey) = false)
  | [], [], s, _ => ⟨rfl, rfl⟩
  | [], _ :: _, s, h => by cases h
  | _ :: _, [], s, h => by cases h
  | e :: r, q :: qs, s, h => by
    obtain ⟨h1, h2⟩ := He.ba (show (entB e q && entsB r qs) = true from h)
    obtain ⟨⟨t, k⟩, ⟨u, v⟩⟩ := entB_ok h1
    have ih := ents_find s h2
    have e1 : (dtab (q :: qs)).lookup s = (match s == q.1 with | true => some (D.int q.2) | false => (dtab qs).lookup s) := by
      show List.lookup s ((q.1, D.int q.2) :: dtab qs) = _
      rw [List.lookup_cons]
      cases s == q.1 <;> rfl
    have e2 : e.key.isStr s = (s == q.1) := by
      rw [k]
      show (q.1 == s) = _
      cases z : s == q.1 with
      | true =>
        have := eq_of_beq z
        subst this
        exact beq_self_eq_true _
      | false =>
        cases y : q.1 == s with
        | false => rfl
        | true =>
          have := eq_of_beq y
          subst this
          rw [beq_self_eq_true] at z
          cases z
    rw [e1]
    cases z : s == q.1 with
    | true =>
      refine ⟨e, q.2, u, ?_, v, rfl⟩
      rw [List.find?_cons, e2, z]
    | false =>
      have e3 : (e :: r).find? (fun z => z.key.isStr s) = r.find? fun z => z.key.isStr s := by rw [List.find?_cons, e2, z]
      have e4 : (e :: r).any (fun z => z.refKey) = r.any fun z => z.refKey := by
        rw [List.any_cons]
        have : e.refKey = false := by
          unfold DictEntry.refKey
          rw [k]
        rw [this]
        rfl
      rw [e3, e4]
      exact ih
def tabB (tab : List (Str × Int)) (a : Addr) (K : PySem.W.Frag) : Bool := match K.lookup a with
  | some ⟨_, _, .dict es _, _⟩ => entsB es.toList tab
  | _ => false
theorem tabB_at {X : Cx} {a : Addr} {tab : List (Str × Int)} (kd : ∃ es n, KDict X.K X.w a es n) (h : tabB tab a X.K = true) : TabAt X a (dtab tab) := by
  obtain ⟨es, n, k⟩ := kd
  have hl := k.1
  unfold tabB at h
  rw [hl] at h
  have h : entsB es.toList tab = true := h
  refine ⟨⟨es, n, k⟩, fun s d e => ?_, fun s e => ?_⟩
  · have q := ents_find s h
    rw [e] at q
    obtain ⟨z, i, t, h1, h2, rfl⟩ := q
    refine ⟨.int i t, .int i, ?_, ⟨t, rfl⟩, fun B O H => .int i⟩
    unfold PySem.W.nsIn
    rw [hl]
    show (match es.toList.find? (fun z => z.key.isStr s) with
      | some e => some (some e.val)
      | none => _) = _
    rw [h1, ← h2]
  · have q := ents_find s h
    rw [e] at q
    obtain ⟨h1, h2⟩ := q
    unfold PySem.W.nsIn
    rw [hl]
    show (match es.toList.find? (fun z => z.key.isStr s) with
      | some e => some (some e.val)
      | none => if es.toList.any (fun z => z.refKey) then none else some none) = _
    rw [h1, h2]
    rfl
abbrev AlX : Type := He.AlT × Bool
def xObs (n : Nat) (fa : List He.Fa) (fn : List He.DefD) (ts : List He.Tab) (ex : PySem.W.Frag → Bool) (g : Addr → Option Obj) : AlX := (He.obsT fa fn ts (He.frG g (He.asD g n)), ex (He.frG g (He.asD g n)))
def xHook (n : Nat) (fa : List He.Fa) (fn : List He.DefD) (ts : List He.Tab) (ex : PySem.W.Frag → Bool) : PySem.W.Hook where
  α := AlX
  obs := fun s => xObs n fa fn ts ex s.heap.get?
  val := fun w => (He.valT fn ts w, true)
  says := fun w h => ∃ K : PySem.W.Frag, K.In h ∧ (He.SaysT fa fn ts w K ∧ ex K = true)
  of := fun _ _ e => ⟨_, He.frG_in, congrArg Prod.fst e, congrArg Prod.snd e⟩
  keeps := fun _ _ _ ⟨K, hK, c⟩ k => ⟨K, PySem.W.Frag.In.keeps hK k, c⟩
theorem xObs_eq {n : Nat} {fa : List He.Fa} {fn : List He.DefD} {ts : List He.Tab} {ex : PySem.W.Frag → Bool} {g : Addr → Option Obj} {s : Shared} (h : ∀ a, g a = s.heap.get? a) : xObs n fa fn ts ex g = (xHook n fa fn ts ex).obs s := by
  have : g = s.heap.get? := funext h
  subst this
  rfl
end HD
/-! HM1: the mirrors, taken apart by simp. -/
namespace HD
open PySem PyProof.Rows L2
section
variable {ρ : Rho} {Xd : Err → Prop} {Q : D → Prop} {De : DEnds} {a b c : DE} {s t : DS} {u v : DT} {da : DA}
@[simp] theorem e_seq : dSeq s t De ρ = s { De with nx := t De } ρ := rfl
@[simp] theorem e_next : dNext De ρ = De.nx ρ := rfl
@[simp] theorem e_ret : dRet a De ρ = a ρ (De.ex ρ) De.rt := rfl
@[simp] theorem e_retN : dRetN De ρ = De.rt .non := rfl
@[simp] theorem e_if : dIfS u s t De ρ = u ρ (De.ex ρ) (fun z => if z = true then s De ρ else t De ρ) := rfl
@[simp] theorem e_asg {i : Nat} : dAsg i a De ρ = a ρ (De.ex ρ) (fun d => De.nx (ρ.set i (some (.val d)))) := rfl
@[simp] theorem e_own {i : Nat} : dOwn i a De ρ = a ρ (De.ex ρ) (fun d => De.nx (ρ.set i (some (.own d)))) := rfl
@[simp] theorem e_drop : dDrop a De ρ = a ρ (De.ex ρ) (fun _ => De.nx ρ) := rfl
@[simp] theorem e_c {d : D} : dC d ρ Xd Q = Q d := rfl
theorem e_var0 {d : D} {r : Rho} : dVar 0 (some (.val d) :: r) Xd Q = Q d := by
  unfold dVar
  simp
theorem e_varS {i : Nat} {x : Option Sl} {r : Rho} : dVar (i + 1) (x :: r) Xd Q = dVar i r Xd Q := rfl
theorem e_itT {l : List D} : itemsOf (.tup l) = some l := rfl
theorem e_itL {l : List D} : itemsOf (.lst l) = some l := rfl
theorem e_itS {z : Str} : itemsOf (.str z) = some (z.cps.toList.map fun c => .str ⟨#[c]⟩) := rfl
@[simp] theorem e_var {i : Nat} {d : D} (h : ρ[i]? = some (some (.val d))) : dVar i ρ Xd Q = Q d := by
  unfold dVar
  rw [h]
  simp
@[simp] theorem e_op {r : D2} : dOp r a b ρ Xd Q = a ρ Xd fun x => b ρ Xd fun y => r x y Q := rfl
@[simp] theorem e_test {R : Bool → Prop} : dTest a ρ Xd R = a ρ Xd fun d => ∃ c, d = .bl c ∧ R c := rfl
@[simp] theorem e_and {R : Bool → Prop} : dAnd u v ρ Xd R = u ρ Xd fun c => if c = true then v ρ Xd R else R false := rfl
@[simp] theorem e_or {R : Bool → Prop} : dOr u v ρ Xd R = u ρ Xd fun c => if c = true then R true else v ρ Xd R := rfl
@[simp] theorem e_not {R : Bool → Prop} : dNot u ρ Xd R = u ρ Xd fun c => R (!c) := rfl
@[simp] theorem e_andV : dAndV a b ρ Xd Q = a ρ Xd fun x => ∃ c, x = .bl c ∧ if c = true then b ρ Xd Q else Q (.bl false) := rfl
@[simp] theorem e_orV : dOrV a b ρ Xd Q = a ρ Xd fun x => ∃ c, x = .bl c ∧ if c = true then Q (.bl true) else b ρ Xd Q := rfl
@[simp] theorem e_notV : dNotV a ρ Xd Q = a ρ Xd fun x => ∃ c, x = .bl c ∧ Q (.bl (!c)) := rfl
@[simp] theorem e_ifE : dIf u a b ρ Xd Q = u ρ Xd fun c => if c = true then a ρ Xd Q else b ρ Xd Q := rfl
@[simp] theorem e_chain {r r' : D2} : dChain r r' a b c ρ Xd Q = a ρ Xd fun x => b ρ Xd fun y => r x y fun z => ∃ e, z = .bl e ∧ if e = true then c ρ Xd fun w => r' y w Q else Q (.bl false) := rfl
@[simp] theorem e_nil {R : List D → Prop} : dNil ρ Xd R = R [] := rfl
@[simp] theorem e_cons {R : List D → Prop} : dCons a da ρ Xd R = a ρ Xd fun x => da ρ Xd fun xs => R (x :: xs) := rfl
@[simp] theorem e_tup : dTup da ρ Xd Q = da ρ Xd fun ds => ds.length ≤ sizeLine ∧ Q (.tup ds) := rfl
@[simp] theorem e_lst : dLst da ρ Xd Q = da ρ Xd fun ds => ds.length ≤ sizeLine ∧ Q (.lst ds) := rfl
@[simp] theorem e_cb {r : DR} : dCB r da ρ Xd Q = da ρ Xd fun ds => r ds Q := rfl
@[simp] theorem e_call {m : DFn} : dCall m da ρ Xd Q = da ρ Xd fun ds => m ds Xd Q := rfl
@[simp] theorem e_sl {l h : DO} : dSl a l h ρ Xd Q = a ρ Xd fun x => l ρ Xd fun l => h ρ Xd fun h => rSl x l h Q := rfl
@[simp] theorem e_part {R : Option Int → Prop} : dPart a ρ Xd R = a ρ Xd fun d => ∃ i, d = .int i ∧ R (some i) := rfl
@[simp] theorem e_noPart {R : Option Int → Prop} : dNoPart ρ Xd R = R none := rfl
@[simp] theorem e_items {R : List D → Prop} : dItems a ρ Xd R = a ρ Xd fun d => ∃ ds, itemsOf d = some ds ∧ R ds := rfl
@[simp] theorem e_rng1 {R : List D → Prop} : dRng1 da ρ Xd R = da ρ Xd fun ds => ∃ j, ds = [.int j] ∧ -(2 ^ 62) ≤ j ∧ j < 2 ^ 62 ∧ R (intsD 0 j.toNat) := rfl
@[simp] theorem e_lc {di : DI} {tg : DG} {vs : List Nat} : dLc di tg u a vs ρ Xd Q = (noOwn ρ vs = true ∧ di ρ Xd fun ds => lcD tg u a ds [] (wipeR ρ vs) fun acc => Q (.lst acc)) := rfl
@[simp] theorem e_yes {R : Bool → Prop} : dYes ρ Xd R = R true := rfl
@[simp] theorem e_fn {n np : Nat} {ds : List D} : dFn n np s ds Xd Q = (ds.length = np ∧ s { nx := fun _ => Q .non, rt := Q, bk := fun _ => False, ct := fun _ => False, ex := fun _ e => Xd e } (rho0 n ds)) := rfl
@[simp] theorem e_rho1 {n : Nat} {x : D} : rho0 (n + 1) [x] = some (.val x) :: List.replicate n none := rfl
@[simp] theorem e_rho2 {n : Nat} {x y : D} : rho0 (n + 2) [x, y] = some (.val x) :: some (.val y) :: List.replicate n none := rfl
@[simp] theorem e_rho3 {n : Nat} {x y z : D} : rho0 (n + 3) [x, y, z] = some (.val x) :: some (.val y) :: some (.val z) :: List.replicate n none := rfl
@[simp] theorem e_rho4 {n : Nat} {x y z w : D} : rho0 (n + 4) [x, y, z, w] = some (.val x) :: some (.val y) :: some (.val z) :: some (.val w) :: List.replicate n none := rfl
@[simp] theorem e_isi {d : D} {n : String} : rIsi [d, .ty n] Q = (isPl d = true ∧ n ∈ plainTys ∧ Q (.bl (isiN n d))) := propext ⟨fun ⟨d', n', e, h⟩ => by cases e; exact h, fun h => ⟨d, n, rfl, h⟩⟩
@[simp] theorem e_ints {C : Int → Int → Prop} {g : Int → Int → D} {i j : Int} : rInts C g (.int i) (.int j) Q = (C i j ∧ Q (g i j)) := by
  unfold rInts
  simp
@[simp] theorem e_CT {i j : Int} : CT i j = True := rfl
@[simp] theorem e_lenS {z : Str} : rLen [.str z] Q = Q (.int z.length) := rfl
@[simp] theorem e_lenT {xs : List D} : rLen [.tup xs] Q = Q (.int xs.length) := rfl
@[simp] theorem e_lenL {xs : List D} : rLen [.lst xs] Q = Q (.int xs.length) := rfl
@[simp] theorem e_addI {i j : Int} : rAdd (.int i) (.int j) Q = Q (.int (i + j)) := rfl
@[simp] theorem e_addS {x y : Str} : rAdd (.str x) (.str y) Q = (okS (x ++ y) ∧ Q (.str (x ++ y))) := rfl
@[simp] theorem e_addL {x y : List D} : rAdd (.lst x) (.lst y) Q = (x.length + y.length ≤ sizeLine ∧ Q (.lst (x ++ y))) := rfl
@[simp] theorem e_int {i : Int} : rInt [.int i] Q = Q (.int i) := rfl
@[simp] theorem e_intB {z : Bool} : rInt [.bl z] Q = Q (.int (if z then 1 else 0)) := rfl
@[simp] theorem e_ixT {ds : List D} {i : Int} : rIx (.tup ds) (.int i) Q = ∃ d, atI ds i = some d ∧ Q d := by
  unfold rIx
  simp
@[simp] theorem e_ixL {ds : List D} {i : Int} : rIx (.lst ds) (.int i) Q = ∃ d, atI ds i = some d ∧ Q d := by
  unfold rIx
  simp
@[simp] theorem e_ixS {z : Str} {i : Int} : rIx (.str z) (.int i) Q = ∃ c, atI z.cps.toList i = some c ∧ Q (.str ⟨#[c]⟩) := by
  unfold rIx
  simp
@[simp] theorem e_at0 {α : Type} {x : α} {l : List α} : atI (x :: l) 0 = some x := by
  simp [atI, ixN]
theorem at_nat {α : Type} {l : List α} {i : Nat} {x : α} (h : l[i]? = some x) : atI l (i : Int) = some x := by
  obtain ⟨hi, _⟩ := List.getElem?_eq_some_iff.mp h
  unfold atI ixN
  rw [if_pos (by omega), if_pos (by omega)]
  simpa using h
@[simp] theorem e_at1 {α : Type} {x y : α} {l : List α} : atI (x :: y :: l) 1 = some y := at_nat (i := 1) rfl
@[simp] theorem e_at2 {α : Type} {x y z : α} {l : List α} : atI (x :: y :: z :: l) 2 = some z := at_nat (i := 2) rfl
@[simp] theorem e_slT {ds : List D} {l h : Option Int} : rSl (.tup ds) l h Q = Q (.tup (cutL ds l h)) := rfl
@[simp] theorem e_slL {ds : List D} {l h : Option Int} : rSl (.lst ds) l h Q = Q (.lst (cutL ds l h)) := rfl
@[simp] theorem e_slS {z : Str} {l h : Option Int} : rSl (.str z) l h Q = Q (.str (cutS z l h)) := rfl
@[simp] theorem e_tail {α : Type} {x : α} {l : List α} : cutL (x :: l) (some 1) none = l := by
  have h : HT.sIx (x :: l).length 0 (some 1) = 1 := by
    have := HT.sIx_nat (x :: l).length 0 1
    simp at this
    simpa using this
  unfold cutL
  rw [h, HT.sIx_none]
  simp
@[simp] theorem e_eqS {x y : Str} : eqD (.str x) (.str y) = decide (x = y) := by
  unfold eqD
  simp only [toP, PyData.eqv]
  exact Bool.eq_iff_iff.mpr (by simp)
@[simp] theorem e_eqI {x y : Int} : eqD (.int x) (.int y) = decide (x = y) := by
  unfold eqD
  simp only [toP, PyData.eqv]
  exact Bool.eq_iff_iff.mpr (by simp)
@[simp] theorem e_depS {x : Str} : depD (.str x) = 0 := by
  unfold depD
  simp [toP, PyData.depth]
@[simp] theorem e_depI {x : Int} : depD (.int x) = 0 := by
  unfold depD
  simp [toP, PyData.depth]
@[simp] theorem e_isiS {x : Str} : isiN "str" (.str x) = true := rfl
@[simp] theorem e_isiT {x : List D} : isiN "str" (.tup x) = false := rfl
@[simp] theorem e_isiTT {x : List D} : isiN "tuple" (.tup x) = true := rfl
@[simp] theorem e_isiTS {x : Str} : isiN "tuple" (.str x) = false := rfl
@[simp] theorem e_lcN {tg : DG} {acc : List D} {R : List D → Prop} : lcD tg u a [] acc ρ R = R acc := rfl
@[simp] theorem e_lcC {tg : DG} {d : D} {r acc : List D} {R : List D → Prop} : lcD tg u a (d :: r) acc ρ R = tg d ρ fun ρ1 => u ρ1 (fun _ => False) fun c => if c = true then a ρ1 (fun _ => False) (fun y => acc.length < sizeLine ∧ lcD tg u a r (acc ++ [y]) ρ R) else lcD tg u a r acc ρ R := rfl
@[simp] theorem e_name {i : Nat} {d : D} {R : Rho → Prop} : tName i d ρ R = R (ρ.set i (some (.val d))) := rfl
theorem big4000 {m : Int} (h : m < 1000000) : m < 2 ^ 4000 := Int.lt_trans h (by
  have e : (2 : Int) ^ 4000 = 2 ^ 20 * 2 ^ 3980 := by rw [← Int.pow_add]
  have p : (0 : Int) < 2 ^ 3980 := Int.pow_pos (by decide)
  rw [e]
  omega)
@[simp] theorem e_draw {m : Int} (h0 : 0 < m) (h1 : m < 1000000) : m_draw [.bag, .int m] Xd Q = ∀ r : Int, 0 ≤ r → r < m → Q (.int r) := propext
  ⟨fun ⟨m', e, _, _, h⟩ => by cases e; exact h, fun h => ⟨m, rfl, h0, big4000 h1, h⟩⟩
@[simp] theorem e_repl {n : Nat} : List.replicate (n + 1) (none : Option Sl) = none :: List.replicate n none := rfl
end
section
variable {ρ : Rho} {Xd : Err → Prop} {Q : D → Prop} {a b : DE} {da : DA}
@[simp] theorem e_inT {neg : Bool} {x : D} {ds : List D} : HD.rIn neg x (.tup ds) Q = ((flatD x = true ∧ ds.all flatD = true) ∧ Q (.bl (neg ^^ ds.any fun z => eqD z x))) := rfl
@[simp] theorem e_inL {neg : Bool} {x : D} {ds : List D} : HD.rIn neg x (.lst ds) Q = (((flatD x = true ∧ ds.all flatD = true) ∨ deepIn x ds) ∧ Q (.bl (neg ^^ ds.any fun z => eqD z x))) := rfl
@[simp] theorem e_inS {neg : Bool} {c : Nat} {z : Str} : HD.rIn neg (.str ⟨#[c]⟩) (.str z) Q = Q (.bl (neg ^^ decide (c ∈ z.cps.toList))) := by
  show (∃ c', D.str ⟨#[c]⟩ = .str ⟨#[c']⟩ ∧ Q _) = _
  refine propext ⟨fun ⟨c', e, h⟩ => ?_, fun h => ⟨c, rfl, h⟩⟩
  have : c = c' := by simpa using e
  subst this
  exact h
@[simp] theorem e_inTab {neg : Bool} {tab : List (Str × D)} : dInTab neg tab a ρ Xd Q = a ρ Xd fun x => ∃ s, x = .str s ∧ Q (.bl (neg ^^ (tab.lookup s).isSome)) := rfl
theorem e_ixTab {tab : List (Str × D)} : dIxTab tab a ρ Xd Q = a ρ Xd fun x => ∃ s, x = .str s ∧ ∃ d, tab.lookup s = some d ∧ Q d := by
  unfold dIxTab
  congr 1
  funext x
  refine propext ⟨fun ⟨s, d, h1, h2, h3⟩ => ⟨s, h1, d, h2, h3⟩, fun ⟨s, h1, d, h2, h3⟩ => ⟨s, d, h1, h2, h3⟩⟩
theorem e_n2 : ((2 : Nat) : Int) = 2 := rfl
theorem e_n3 : ((3 : Nat) : Int) = 3 := rfl
theorem e_n4 : ((4 : Nat) : Int) = 4 := rfl
theorem e_ln0 : (0 < sizeLine) = True := eq_true (by decide)
theorem e_ln1 : (1 < sizeLine) = True := eq_true (by decide)
theorem e_eqv {x y : D} : HD.rEq x y Q = (okD x = true ∧ okD y = true ∧ min (depD x) (depD y) ≤ 64 ∧ Q (.bl (eqD x y))) := rfl
theorem e_nev {x y : D} : HD.rNe x y Q = (okD x = true ∧ okD y = true ∧ min (depD x) (depD y) ≤ 64 ∧ Q (.bl (!eqD x y))) := rfl
theorem e_starts : dStarts a da ρ Xd Q = a ρ Xd fun x => ∃ s, x = .str s ∧ da ρ Xd fun ys => ∃ t i, ys = [.str t, .int i] ∧ Q (.bl (Txt.startswith3 s t i)) := rfl
theorem e_st2 {a : Str} {j : Int} {P : Str → Int → Prop} : (∃ t i, [D.str a, D.int j] = [D.str t, D.int i] ∧ P t i) = P a j := propext ⟨fun ⟨t, i, e, h⟩ => by cases e; exact h, fun h => ⟨a, j, rfl, h⟩⟩
theorem i_str_S {x : Str} : isiN "str" (.str x) = true := rfl
theorem i_str_T {x : List D} : isiN "str" (.tup x) = false := rfl
theorem i_str_L {x : List D} : isiN "str" (.lst x) = false := rfl
theorem i_str_I {x : Int} : isiN "str" (.int x) = false := rfl
theorem i_int_S {x : Str} : isiN "int" (.str x) = false := rfl
theorem i_int_T {x : List D} : isiN "int" (.tup x) = false := rfl
theorem i_int_L {x : List D} : isiN "int" (.lst x) = false := rfl
theorem i_int_I {x : Int} : isiN "int" (.int x) = true := rfl
theorem i_bool_S {x : Str} : isiN "bool" (.str x) = false := rfl
theorem i_bool_T {x : List D} : isiN "bool" (.tup x) = false := rfl
theorem i_bool_L {x : List D} : isiN "bool" (.lst x) = false := rfl
theorem i_bool_I {x : Int} : isiN "bool" (.int x) = false := rfl
theorem i_list_S {x : Str} : isiN "list" (.str x) = false := rfl
theorem i_list_T {x : List D} : isiN "list" (.tup x) = false := rfl
theorem i_list_L {x : List D} : isiN "list" (.lst x) = true := rfl
theorem i_list_I {x : Int} : isiN "list" (.int x) = false := rfl
theorem i_tuple_S {x : Str} : isiN "tuple" (.str x) = false := rfl
theorem i_tuple_T {x : List D} : isiN "tuple" (.tup x) = true := rfl
theorem i_tuple_L {x : List D} : isiN "tuple" (.lst x) = false := rfl
theorem i_tuple_I {x : Int} : isiN "tuple" (.int x) = false := rfl
theorem i_dict_S {x : Str} : isiN "dict" (.str x) = false := rfl
theorem i_dict_T {x : List D} : isiN "dict" (.tup x) = false := rfl
theorem i_dict_L {x : List D} : isiN "dict" (.lst x) = false := rfl
theorem i_dict_I {x : Int} : isiN "dict" (.int x) = false := rfl
theorem e_ty_int : ("int" ∈ plainTys) = True := eq_true (by decide)
theorem e_ty_bool : ("bool" ∈ plainTys) = True := eq_true (by decide)
theorem e_ty_list : ("list" ∈ plainTys) = True := eq_true (by decide)
theorem e_ty_dict : ("dict" ∈ plainTys) = True := eq_true (by decide)
theorem e_isi2 {n m : String} : dIsi2 n m a ρ Xd Q = a ρ Xd fun d => isPl d = true ∧ Q (.bl (isiN n d || isiN m d)) := rfl
theorem e_pl3 {l : List D} : isPl (.lst l) = true := rfl
theorem e_pl4 {l : Int} : isPl (.int l) = true := rfl
theorem e_eqB {x y : Bool} : eqD (.bl x) (.bl y) = decide (x = y) := by
  cases x <;> cases y <;> simp [eqD, toP, PyData.eqv]
theorem e_depB {x : Bool} : depD (.bl x) = 0 := by
  simp [depD, toP, PyData.depth]
theorem e_ok3 {i : Bool} : okD (.bl i) = true := rfl
theorem e_r2 : intsD 0 (Int.toNat 2) = [.int 0, .int 1] := rfl
theorem e_r3 : intsD 0 (Int.toNat 3) = [.int 0, .int 1, .int 2] := rfl
theorem e_r0 : intsD 0 (Int.toNat 0) = [] := rfl
theorem e_for {di : DI} {tg : DG} {db : DS} {De : DEnds} : dFor di tg db De ρ = di ρ (De.ex ρ) fun ds => forD tg db ds De ρ := rfl
theorem e_forN {tg : DG} {db : DS} {De : DEnds} : forD tg db [] De ρ = De.nx ρ := rfl
theorem e_forC {tg : DG} {db : DS} {De : DEnds} {d : D} {r : List D} : forD tg db (d :: r) De ρ = tg d ρ fun ρ1 => db { De with nx := forD tg db r De, ct := forD tg db r De, bk := De.nx } ρ1 := rfl
theorem e_i1 {j : Int} {R : Int → Prop} : (∃ i, [D.int j] = [D.int i] ∧ R i) = R j := propext ⟨fun ⟨i, e, h⟩ => by cases e; exact h, fun h => ⟨j, rfl, h⟩⟩
theorem e_p2 : (2 : Int) ^ 62 = 4611686018427387904 := by decide
theorem e_n0 : ((0 : Nat) : Int) = 0 := rfl
theorem e_pl1 {s : Str} : isPl (.str s) = true := rfl
theorem e_pl2 {l : List D} : isPl (.tup l) = true := rfl
theorem e_ty1 : ("str" ∈ plainTys) = True := eq_true (by decide)
theorem e_ty2 : ("tuple" ∈ plainTys) = True := eq_true (by decide)
theorem e_ok1 {s : Str} : okD (.str s) = true := rfl
theorem e_ok2 {i : Int} : okD (.int i) = true := rfl
theorem e_min : (min (0 : Nat) 0 ≤ 64) = True := eq_true (by decide)
theorem e_one : (1 ≤ sizeLine) = True := eq_true (by decide)
theorem e_two : (2 ≤ sizeLine) = True := eq_true (by decide)
theorem e_three : (3 ≤ sizeLine) = True := eq_true (by decide)
theorem e_is {x : D} : HD.rIs x .non Q = Q (.bl (isNoneD x)) := by
  unfold HD.rIs
  simp
theorem e_isNot {x : D} : HD.rIsNot x .non Q = Q (.bl (!isNoneD x)) := by
  unfold HD.rIsNot
  simp
theorem e_nnT {l : List D} : isNoneD (.tup l) = false := rfl
theorem e_nnS {l : Str} : isNoneD (.str l) = false := rfl
theorem e_fl1 {s : Str} : flatD (.str s) = true := rfl
theorem e_fl2 {s : Int} : flatD (.int s) = true := rfl
theorem e_fl3 : flatD .non = true := rfl
theorem t_var_pair : decide ((Str.ofString "var") = Str.ofString "pair") = false := by decide +kernel
theorem t_var_box : decide ((Str.ofString "var") = Str.ofString "box") = false := by decide +kernel
theorem t_var_half : decide ((Str.ofString "var") = Str.ofString "half") = false := by decide +kernel
theorem t_var_shut : decide ((Str.ofString "var") = Str.ofString "shut") = false := by decide +kernel
theorem t_var_mark : decide ((Str.ofString "var") = Str.ofString "mark") = false := by decide +kernel
theorem t_var_mix : decide ((Str.ofString "var") = Str.ofString "mix") = false := by decide +kernel
theorem t_pair_var : decide ((Str.ofString "pair") = Str.ofString "var") = false := by decide +kernel
theorem t_pair_box : decide ((Str.ofString "pair") = Str.ofString "box") = false := by decide +kernel
theorem t_pair_half : decide ((Str.ofString "pair") = Str.ofString "half") = false := by decide +kernel
theorem t_pair_shut : decide ((Str.ofString "pair") = Str.ofString "shut") = false := by decide +kernel
theorem t_pair_mark : decide ((Str.ofString "pair") = Str.ofString "mark") = false := by decide +kernel
theorem t_pair_mix : decide ((Str.ofString "pair") = Str.ofString "mix") = false := by decide +kernel
theorem t_box_var : decide ((Str.ofString "box") = Str.ofString "var") = false := by decide +kernel
theorem t_box_pair : decide ((Str.ofString "box") = Str.ofString "pair") = false := by decide +kernel
theorem t_box_half : decide ((Str.ofString "box") = Str.ofString "half") = false := by decide +kernel
theorem t_box_shut : decide ((Str.ofString "box") = Str.ofString "shut") = false := by decide +kernel
theorem t_box_mark : decide ((Str.ofString "box") = Str.ofString "mark") = false := by decide +kernel
theorem t_box_mix : decide ((Str.ofString "box") = Str.ofString "mix") = false := by decide +kernel
theorem t_half_var : decide ((Str.ofString "half") = Str.ofString "var") = false := by decide +kernel
theorem t_half_pair : decide ((Str.ofString "half") = Str.ofString "pair") = false := by decide +kernel
theorem t_half_box : decide ((Str.ofString "half") = Str.ofString "box") = false := by decide +kernel
theorem t_half_shut : decide ((Str.ofString "half") = Str.ofString "shut") = false := by decide +kernel
theorem t_half_mark : decide ((Str.ofString "half") = Str.ofString "mark") = false := by decide +kernel
theorem t_half_mix : decide ((Str.ofString "half") = Str.ofString "mix") = false := by decide +kernel
theorem t_shut_var : decide ((Str.ofString "shut") = Str.ofString "var") = false := by decide +kernel
theorem t_shut_pair : decide ((Str.ofString "shut") = Str.ofString "pair") = false := by decide +kernel
theorem t_shut_box : decide ((Str.ofString "shut") = Str.ofString "box") = false := by decide +kernel
theorem t_shut_half : decide ((Str.ofString "shut") = Str.ofString "half") = false := by decide +kernel
theorem t_shut_mark : decide ((Str.ofString "shut") = Str.ofString "mark") = false := by decide +kernel
theorem t_shut_mix : decide ((Str.ofString "shut") = Str.ofString "mix") = false := by decide +kernel
theorem t_mark_var : decide ((Str.ofString "mark") = Str.ofString "var") = false := by decide +kernel
theorem t_mark_pair : decide ((Str.ofString "mark") = Str.ofString "pair") = false := by decide +kernel
theorem t_mark_box : decide ((Str.ofString "mark") = Str.ofString "box") = false := by decide +kernel
theorem t_mark_half : decide ((Str.ofString "mark") = Str.ofString "half") = false := by decide +kernel
theorem t_mark_shut : decide ((Str.ofString "mark") = Str.ofString "shut") = false := by decide +kernel
theorem t_mark_mix : decide ((Str.ofString "mark") = Str.ofString "mix") = false := by decide +kernel
theorem t_mix_var : decide ((Str.ofString "mix") = Str.ofString "var") = false := by decide +kernel
theorem t_mix_pair : decide ((Str.ofString "mix") = Str.ofString "pair") = false := by decide +kernel
theorem t_mix_box : decide ((Str.ofString "mix") = Str.ofString "box") = false := by decide +kernel
theorem t_mix_half : decide ((Str.ofString "mix") = Str.ofString "half") = false := by decide +kernel
theorem t_mix_shut : decide ((Str.ofString "mix") = Str.ofString "shut") = false := by decide +kernel
theorem t_mix_mark : decide ((Str.ofString "mix") = Str.ofString "mark") = false := by decide +kernel
end
/-! ### texts as lists of signs -/
def St (l : List Nat) : Str := ⟨l.toArray⟩
theorem St_app (a b : List Nat) : St a ++ St b = St (a ++ b) := by
  show Str.append _ _ = _
  simp [Str.append, St]
theorem St_len (a : List Nat) : (St a).length = a.length := by
  simp [St, Str.length]
theorem St_cps (a : List Nat) : (St a).cps.toList = a := by simp [St]
theorem St_of (s : Str) : St s.cps.toList = s := by
  obtain ⟨c⟩ := s
  simp [St]
theorem St_inj {a b : List Nat} : St a = St b ↔ a = b := by
  constructor
  · intro h
    have := congrArg (fun s : Str => s.cps.toList) h
    simpa [St_cps] using this
  · rintro rfl
    rfl
end HD
/-! HM2: terms, their wordings, texts at places. -/
namespace HD
open PySem PyProof.Rows L2
theorem lc_all {tg : DG} {u : DT} {a : DE} {ρ : Rho} {R : List D → Prop} (f : D → D) : ∀ (ds acc : List D), (∀ d ∈ ds, ∀ (S : D → Prop) (N : Prop), S (f d) → tg d ρ fun ρ1 => u ρ1 (fun _ => False) fun c => if c = true then a ρ1 (fun _ => False) S else N) →
    acc.length + ds.length ≤ sizeLine → R (acc ++ ds.map f) → lcD tg u a ds acc ρ R
  | [], acc, _, _, h => by simpa using h
  | d :: r, acc, hf, hl, h => by
    refine hf d (List.mem_cons_self ..) (fun y => acc.length < sizeLine ∧ lcD tg u a r (acc ++ [y]) ρ R) _ ⟨?_, ?_⟩
    · simp at hl
      omega
    · refine lc_all f r (acc ++ [f d]) (fun d' hd => hf d' (List.mem_cons_of_mem _ hd)) ?_ ?_
      · simp at hl ⊢
        omega
      · simpa using h
def isNm (s : List Nat) : Prop := 1 ≤ s.length ∧ s.length ≤ 8 ∧ ∀ c ∈ s, 97 ≤ c ∧ c ≤ 122
inductive Tm where
  | nm (s : List Nat)
  | pair (a b : Tm)
  | box (k b : Tm)
  | half (s : List Nat)
  | shut (s : List Nat) (a : Tm)
  | mark (s : List Nat) (a : Tm)
  | mix (a : Tm)
namespace Tm
def d : Tm → D
  | nm s => .str (St s)
  | pair a b => .tup [.str "pair", a.d, b.d]
  | box a b => .tup [.str "box", a.d, b.d]
  | half s => .tup [.str "half", .str (St s)]
  | shut s a => .tup [.str "shut", .str (St s), a.d]
  | mark s a => .tup [.str "mark", .str (St s), a.d]
  | mix a => .tup [.str "mix", a.d]
def key (w : List Nat) : Tm → List Nat
  | nm _ => w
  | _ => [60] ++ w ++ [62]
def wd : Tm → List Nat
  | nm s => s
  | pair a b => [40] ++ a.wd ++ [32, 38, 32] ++ b.wd ++ [41]
  | box a b => [91] ++ b.wd ++ [93] ++ key a.wd a
  | half s => [104, 97, 108, 102, 32] ++ s
  | shut s a => [123] ++ a.wd ++ [125] ++ s
  | mark s a => [40] ++ a.wd ++ [33] ++ s ++ [41]
  | mix a => [109, 105, 120, 40] ++ a.wd ++ [41]
def ok : Tm → Prop
  | nm s => isNm s
  | pair a b => a.ok ∧ b.ok
  | box a b => a.ok ∧ b.ok
  | half s => isNm s
  | shut s a => isNm s ∧ a.ok
  | mark s a => isNm s ∧ a.ok
  | mix a => a.ok
def size : Tm → Int
  | nm _ => 1
  | pair a b => a.size + b.size
  | box a b => a.size + b.size
  | half _ => 1
  | shut _ a => 1 + a.size
  | mark _ a => 1 + a.size
  | mix a => a.size
def depth : Tm → Int
  | nm _ => 1
  | pair a b => 1 + max a.depth b.depth
  | box a b => 1 + max a.depth b.depth
  | half _ => 2
  | shut _ a => 1 + max 1 a.depth
  | mark _ a => 1 + max 1 a.depth
  | mix a => 1 + a.depth
theorem dpos : ∀ t : Tm, 1 ≤ t.depth
  | nm _ => by simp [depth]
  | pair a b => by simp only [depth]; have := dpos a; omega
  | box a b => by simp only [depth]; have := dpos a; omega
  | half _ => by simp [depth]
  | shut _ a => by simp only [depth]; omega
  | mark _ a => by simp only [depth]; omega
  | mix a => by simp only [depth]; have := dpos a; omega
theorem okd : ∀ t : Tm, okD t.d = true
  | nm _ => by simp [d, okD]
  | pair a b => by simp [d, okD, okDs, okd a, okd b]
  | box a b => by simp [d, okD, okDs, okd a, okd b]
  | half _ => by simp [d, okD, okDs]
  | shut _ a => by simp [d, okD, okDs, okd a]
  | mark _ a => by simp [d, okD, okDs, okd a]
  | mix a => by simp [d, okD, okDs, okd a]
theorem plain : ∀ t : Tm, isPl t.d = true := fun t => by cases t <;> rfl
/-- all signs small -/
theorem signs : ∀ t : Tm, t.ok → ∀ c ∈ t.wd, c < 200
  | nm s, h, c, hc => by have := (h.2.2 c hc).2; omega
  | pair a b, h, c, hc => by
    have ha := signs a h.1 c
    have hb := signs b h.2 c
    simp only [wd, List.mem_append, List.mem_cons, List.not_mem_nil, or_false] at hc
    rcases hc with ((((rfl | hc) | rfl | rfl | rfl) | hc) | rfl) <;> first | omega | exact ha hc | exact hb hc
  | box a b, h, c, hc => by
    have ha := signs a h.1 c
    have hb := signs b h.2 c
    simp only [wd, List.mem_append, List.mem_cons, List.not_mem_nil, or_false] at hc
    rcases hc with (((rfl | hc) | rfl) | hc)
    · omega
    · exact hb hc
    · omega
    · cases a <;> simp only [key, List.mem_append, List.mem_cons, List.not_mem_nil, or_false] at hc <;>
        first | exact ha hc | (rcases hc with ((rfl | hc) | rfl) <;> first | omega | exact ha hc)
  | half s, h, c, hc => by
    simp only [wd, List.mem_append, List.mem_cons, List.not_mem_nil, or_false] at hc
    rcases hc with ((rfl | rfl | rfl | rfl | rfl) | hc) <;> first | omega | (have := (h.2.2 c hc).2; omega)
  | shut s a, h, c, hc => by
    have ha := signs a h.2 c
    simp only [wd, List.mem_append, List.mem_cons, List.not_mem_nil, or_false] at hc
    rcases hc with (((rfl | hc) | rfl) | hc) <;> first | omega | exact ha hc | (have := (h.1.2.2 c hc).2; omega)
  | mark s a, h, c, hc => by
    have ha := signs a h.2 c
    simp only [wd, List.mem_append, List.mem_cons, List.not_mem_nil, or_false] at hc
    rcases hc with ((((rfl | hc) | rfl) | hc) | rfl) <;> first | omega | exact ha hc | (have := (h.1.2.2 c hc).2; omega)
  | mix a, h, c, hc => by
    have ha := signs a h c
    simp only [wd, List.mem_append, List.mem_cons, List.not_mem_nil, or_false] at hc
    rcases hc with (((rfl | rfl | rfl | rfl) | hc) | rfl) <;> first | omega | exact ha hc
theorem pw {n m : Nat} (h : n ≤ m) : 2 ^ n ≤ 2 ^ m := Nat.pow_le_pow_right (by decide) h
theorem width : ∀ (t : Tm) (n : Nat), t.ok → t.depth ≤ n → t.wd.length + 8 ≤ 16 * 2 ^ n
  | nm s, n, h, hd => by
    have : n ≠ 0 := by rintro rfl; simp [depth] at hd
    obtain ⟨n, rfl⟩ := Nat.exists_eq_succ_of_ne_zero this
    have := h.2.1
    have := Nat.pow_pos (n := n) (show 0 < 2 by decide)
    simp only [wd, Nat.pow_succ]
    omega
  | pair a b, n, h, hd => by
    simp only [depth] at hd
    have := dpos a
    obtain ⟨n, rfl⟩ := Nat.exists_eq_succ_of_ne_zero (show n ≠ 0 by omega)
    have h1 := width a n h.1 (by omega)
    have h2 := width b n h.2 (by omega)
    simp only [wd, Nat.pow_succ, List.length_append, List.length_cons, List.length_nil]
    omega
  | box a b, n, h, hd => by
    simp only [depth] at hd
    have := dpos a
    obtain ⟨n, rfl⟩ := Nat.exists_eq_succ_of_ne_zero (show n ≠ 0 by omega)
    have h1 := width a n h.1 (by omega)
    have h2 := width b n h.2 (by omega)
    have h3 : (key a.wd a).length ≤ a.wd.length + 2 := by cases a <;> simp [key]
    simp only [wd, Nat.pow_succ, List.length_append, List.length_cons, List.length_nil]
    omega
  | half s, n, h, hd => by
    simp only [depth] at hd
    obtain ⟨n, rfl⟩ := Nat.exists_eq_succ_of_ne_zero (show n ≠ 0 by omega)
    obtain ⟨n, rfl⟩ := Nat.exists_eq_succ_of_ne_zero (show n ≠ 0 by omega)
    have := h.2.1
    have := Nat.pow_pos (n := n) (show 0 < 2 by decide)
    simp only [wd, Nat.pow_succ, List.length_append, List.length_cons, List.length_nil]
    omega
  | shut s a, n, h, hd => by
    simp only [depth] at hd
    obtain ⟨n, rfl⟩ := Nat.exists_eq_succ_of_ne_zero (show n ≠ 0 by omega)
    have h1 := width a n h.2 (by omega)
    have := h.1.2.1
    simp only [wd, Nat.pow_succ, List.length_append, List.length_cons, List.length_nil]
    omega
  | mark s a, n, h, hd => by
    simp only [depth] at hd
    obtain ⟨n, rfl⟩ := Nat.exists_eq_succ_of_ne_zero (show n ≠ 0 by omega)
    have h1 := width a n h.2 (by omega)
    have := h.1.2.1
    simp only [wd, Nat.pow_succ, List.length_append, List.length_cons, List.length_nil]
    omega
  | mix a, n, h, hd => by
    simp only [depth] at hd
    have := dpos a
    obtain ⟨n, rfl⟩ := Nat.exists_eq_succ_of_ne_zero (show n ≠ 0 by omega)
    have h1 := width a n h (by omega)
    simp only [wd, Nat.pow_succ, List.length_append, List.length_cons, List.length_nil]
    omega
theorem okS_St {l : List Nat} (h : l.length ≤ 1000000) (hc : ∀ c ∈ l, c < 200) : okS (St l) := by
  refine ⟨?_, ?_⟩
  · rw [St_len]
    exact Nat.le_trans h (by decide)
  · unfold PyData.strOk
    rw [← Array.all_toList, St_cps]
    exact List.all_eq_true.mpr fun c hx => by
      have := hc c hx
      simp
      omega
theorem okw {t : Tm} (h : t.ok) (hd : t.depth ≤ 12) : okS (St t.wd) := by
  refine okS_St ?_ (signs t h)
  have := width t 12 h hd
  omega
end Tm
theorem okS_pre {a b : List Nat} (h : okS (St (a ++ b))) : okS (St a) := okS_sub h (by rw [St_len, St_len, List.length_append]; omega) fun c hc => by
  rw [St_cps] at hc ⊢
  exact List.mem_append_left _ hc
theorem okS_suf {a b : List Nat} (h : okS (St (a ++ b))) : okS (St b) := okS_sub h (by rw [St_len, St_len, List.length_append]; omega) fun c hc => by
  rw [St_cps] at hc ⊢
  exact List.mem_append_right _ hc
/-! ### a text at a place -/
theorem starts_at {p r m : List Nat} : Txt.startswith3 (St (p ++ r)) (St m) (p.length : Int) = m.isPrefixOf r := by
  have e : fromIndex (St (p ++ r)).length (p.length : Int) = p.length := by
    unfold fromIndex
    rw [if_neg (by omega)]
    omega
  unfold Txt.startswith3
  rw [e, St_len, St_len, List.length_append]
  have e2 : PySem.Builtin.Str.subAt (St (p ++ r)) (St m) p.length = decide (r.take m.length = m) := by
    unfold PySem.Builtin.Str.subAt
    rw [St_len]
    refine Bool.eq_iff_iff.mpr ?_
    rw [beq_iff_eq, decide_eq_true_eq, ← Array.toList_inj]
    simp [St]
  refine Bool.eq_iff_iff.mpr ?_
  rw [e2, Bool.and_eq_true_iff, decide_eq_true_eq, decide_eq_true_eq, List.isPrefixOf_iff_prefix]
  constructor
  · rintro ⟨_, h⟩
    exact ⟨r.drop m.length, by conv => lhs; lhs; rw [← h]
                               exact List.take_append_drop _ _⟩
  · rintro ⟨z, rfl⟩
    simp
theorem cut_at {p w q : List Nat} : cutS (St (p ++ w ++ q)) (some (p.length : Int)) (some ((p.length : Int) + (w.length : Int))) = St w := by
  unfold cutS
  have e2 : ((p.length : Int) + (w.length : Int)) = ((p.length + w.length : Nat) : Int) := by omega
  rw [e2, HT.sIx_nat, HT.sIx_nat, St_len, St_cps]
  simp only [List.length_append]
  rw [Nat.min_eq_left (by omega), Nat.min_eq_left (by omega), List.append_assoc, List.drop_left, Nat.add_sub_cancel_left, List.take_left]
  rfl
end HD
namespace K04
open PySem PyProof.Rows L2 HD
def top (i : Nat) : Stmt := PySem.Challenge.pw_sealedtalk_k04_wordings.main.body.getD i (.Pass ⟨0, 0, 0, 0⟩)
abbrev s_is_name : Stmt := top 3
theorem sc_is_name : FnScope ["thing", "letter"] ["thing"] (defScope s_is_name) := ⟨rfl, rfl, rfl, by decide +kernel, rfl, by decide +kernel, by decide +kernel⟩
abbrev s_is_leaf : Stmt := top 20
theorem sc_is_leaf : FnScope ["thing", "open_so"] ["thing", "open_so"] (defScope s_is_leaf) := ⟨rfl, rfl, rfl, by decide +kernel, rfl, by decide +kernel, by decide +kernel⟩
abbrev s_measure : Stmt := top 21
theorem sc_measure : FnScope ["thing", "open_so", "room", "rows", "part", "row"] ["thing", "open_so", "room"] (defScope s_measure) := ⟨rfl, rfl, rfl, by decide +kernel, rfl, by decide +kernel, by decide +kernel⟩
abbrev s_has_form : Stmt := top 22
theorem sc_has_form : FnScope ["thing", "open_so", "found"] ["thing", "open_so"] (defScope s_has_form) := ⟨rfl, rfl, rfl, by decide +kernel, rfl, by decide +kernel, by decide +kernel⟩
abbrev s_is_term : Stmt := top 23
theorem sc_is_term : FnScope ["thing"] ["thing"] (defScope s_is_term) := ⟨rfl, rfl, rfl, by decide +kernel, rfl, by decide +kernel, by decide +kernel⟩
abbrev s_check_term : Stmt := top 24
theorem sc_check_term : FnScope ["term"] ["term"] (defScope s_check_term) := ⟨rfl, rfl, rfl, by decide +kernel, rfl, by decide +kernel, by decide +kernel⟩
abbrev s_spelled : Stmt := top 27
theorem sc_spelled : FnScope ["term", "parts", "bare", "part"] ["term"] (defScope s_spelled) := ⟨rfl, rfl, rfl, by decide +kernel, rfl, by decide +kernel, by decide +kernel⟩
abbrev s_worded : Stmt := top 28
theorem sc_worded : FnScope ["term"] ["term"] (defScope s_worded) := ⟨rfl, rfl, rfl, by decide +kernel, rfl, by decide +kernel, by decide +kernel⟩
abbrev s_word_end : Stmt := top 29
theorem sc_word_end : FnScope ["text", "at"] ["text", "at"] (defScope s_word_end) := ⟨rfl, rfl, rfl, by decide +kernel, rfl, by decide +kernel, by decide +kernel⟩
abbrev s_leaf_at : Stmt := top 30
theorem sc_leaf_at : FnScope ["text", "at", "first", "end"] ["text", "at"] (defScope s_leaf_at) := ⟨rfl, rfl, rfl, by decide +kernel, rfl, by decide +kernel, by decide +kernel⟩
abbrev s_behind : Stmt := top 31
theorem sc_behind : FnScope ["text", "found", "mark"] ["text", "found", "mark"] (defScope s_behind) := ⟨rfl, rfl, rfl, by decide +kernel, rfl, by decide +kernel, by decide +kernel⟩
abbrev s_round_at : Stmt := top 32
theorem sc_round_at : FnScope ["text", "at", "room", "first", "second"] ["text", "at", "room"] (defScope s_round_at) := ⟨rfl, rfl, rfl, by decide +kernel, rfl, by decide +kernel, by decide +kernel⟩
abbrev s_box_at : Stmt := top 33
theorem sc_box_at : FnScope ["text", "at", "room", "first", "second"] ["text", "at", "room"] (defScope s_box_at) := ⟨rfl, rfl, rfl, by decide +kernel, rfl, by decide +kernel, by decide +kernel⟩
abbrev s_shut_at : Stmt := top 34
theorem sc_shut_at : FnScope ["text", "at", "room", "first", "second"] ["text", "at", "room"] (defScope s_shut_at) := ⟨rfl, rfl, rfl, by decide +kernel, rfl, by decide +kernel, by decide +kernel⟩
abbrev s_word_at : Stmt := top 35
theorem sc_word_at : FnScope ["text", "at", "room", "end", "found"] ["text", "at", "room"] (defScope s_word_at) := ⟨rfl, rfl, rfl, by decide +kernel, rfl, by decide +kernel, by decide +kernel⟩
abbrev s_term_at : Stmt := top 36
theorem sc_term_at : FnScope ["text", "at", "room"] ["text", "at", "room"] (defScope s_term_at) := ⟨rfl, rfl, rfl, by decide +kernel, rfl, by decide +kernel, by decide +kernel⟩
abbrev s_read_any : Stmt := top 37
theorem sc_read_any : FnScope ["text", "open_so", "found"] ["text", "open_so"] (defScope s_read_any) := ⟨rfl, rfl, rfl, by decide +kernel, rfl, by decide +kernel, by decide +kernel⟩
abbrev s_read_term : Stmt := top 38
theorem sc_read_term : FnScope ["text", "term"] ["text"] (defScope s_read_term) := ⟨rfl, rfl, rfl, by decide +kernel, rfl, by decide +kernel, by decide +kernel⟩
abbrev s_law_bag : Stmt := top 40
theorem sc_law_bag : FnScope ["_law_script", "_law_seed", "_law_cell"] ["_law_script"] (defScope s_law_bag) := ⟨rfl, rfl, rfl, by decide +kernel, rfl, by decide +kernel, by decide +kernel⟩
abbrev s_law_draw : Stmt := top 41
theorem sc_law_draw : FnScope ["_law_bag_here", "_law_many", "_law_cell", "_law_digit", "_law_mixed"] ["_law_bag_here", "_law_many"] (defScope s_law_draw) := ⟨rfl, rfl, rfl, by decide +kernel, rfl, by decide +kernel, by decide +kernel⟩
abbrev s_law_same : Stmt := top 42
theorem sc_law_same : FnScope ["_law_actual", "_law_due", "_law_key", "_law_k"] ["_law_actual", "_law_due"] (defScope s_law_same) := ⟨rfl, rfl, rfl, by decide +kernel, rfl, by decide +kernel, by decide +kernel⟩
abbrev s_law_names : Stmt := top 43
theorem sc_law_names : FnScope ["_law_bag_here", "_law_many", "_law_letters", "_law_names_here", "_law_k", "_law_size", "_law_name", "_law_at", "_law_letter"] ["_law_bag_here", "_law_many"] (defScope s_law_names) := ⟨rfl, rfl, rfl, by decide +kernel, rfl, by decide +kernel, by decide +kernel⟩
abbrev s_law_pick : Stmt := top 44
theorem sc_law_pick : FnScope ["_law_bag_here", "_law_things"] ["_law_bag_here", "_law_things"] (defScope s_law_pick) := ⟨rfl, rfl, rfl, by decide +kernel, rfl, by decide +kernel, by decide +kernel⟩
abbrev s_law_leaf : Stmt := top 45
theorem sc_law_leaf : FnScope ["_law_bag_here", "_law_names_here", "_law_variables"] ["_law_bag_here", "_law_names_here", "_law_variables"] (defScope s_law_leaf) := ⟨rfl, rfl, rfl, by decide +kernel, rfl, by decide +kernel, by decide +kernel⟩
abbrev s_law_pattern : Stmt := top 46
theorem sc_law_pattern : FnScope ["_law_bag_here", "_law_names_here", "_law_variables", "_law_depth", "_law_kind", "_law_first", "_law_key", "_law_leaf_here", "_law_inner"] ["_law_bag_here", "_law_names_here", "_law_variables", "_law_depth"] (defScope s_law_pattern) := ⟨rfl, rfl, rfl, by decide +kernel, rfl, by decide +kernel, by decide +kernel⟩
abbrev s_law_term : Stmt := top 47
theorem sc_law_term : FnScope ["_law_bag_here", "_law_names_here", "_law_depth"] ["_law_bag_here", "_law_names_here", "_law_depth"] (defScope s_law_term) := ⟨rfl, rfl, rfl, by decide +kernel, rfl, by decide +kernel, by decide +kernel⟩
abbrev s_law_spelled : Stmt := top 48
theorem sc_law_spelled : FnScope ["_law_term_here", "_law_words", "_law_part"] ["_law_term_here"] (defScope s_law_spelled) := ⟨rfl, rfl, rfl, by decide +kernel, rfl, by decide +kernel, by decide +kernel⟩
abbrev s_law_wide : Stmt := top 49
theorem sc_law_wide : FnScope ["_law_names_here", "_law_many", "_law_row", "_law_turn", "_law_longer", "_law_k"] ["_law_names_here", "_law_many"] (defScope s_law_wide) := ⟨rfl, rfl, rfl, by decide +kernel, rfl, by decide +kernel, by decide +kernel⟩
abbrev s_law_nested : Stmt := top 50
theorem sc_law_nested : FnScope ["_law_bag_here", "_law_names_here", "_law_term_here", "_law_many", "_law_turn", "_law_name", "_law_inner"] ["_law_bag_here", "_law_names_here", "_law_term_here", "_law_many"] (defScope s_law_nested) := ⟨rfl, rfl, rfl, by decide +kernel, rfl, by decide +kernel, by decide +kernel⟩
abbrev s_law_right : Stmt := top 51
theorem sc_law_right : FnScope ["_law_term_here", "_law_text", "_law_turn"] ["_law_term_here"] (defScope s_law_right) := ⟨rfl, rfl, rfl, by decide +kernel, rfl, by decide +kernel, by decide +kernel⟩
abbrev s_law : Stmt := top 52
theorem sc_law : FnScope ["_law_script", "_law_bag_here", "_law_names_here", "_law_terms", "_law_term_here"] ["_law_script"] (defScope s_law) := ⟨rfl, rfl, rfl, by decide +kernel, rfl, by decide +kernel, by decide +kernel⟩
def tab_LENGTHS : List (Str × D) := [("pair", .int 3), ("box", .int 3), ("half", .int 2), ("shut", .int 3), ("mark", .int 3), ("mix", .int 2)]
structure Top (w : World) (K : PySem.W.Frag) (mg : Str → Option Value) : Prop where
  d_is_name : ∃ fd, FunD K "is_name" "is_name" (defArgs s_is_name) (defBody s_is_name) (defScope s_is_name) [] [] (He.fAd K ("is_name", none)) fd
  g_is_name : mg "is_name" = some (.ref (He.fAd K ("is_name", none)))
  d_is_leaf : ∃ fd, FunD K "is_leaf" "is_leaf" (defArgs s_is_leaf) (defBody s_is_leaf) (defScope s_is_leaf) [] [] (He.fAd K ("is_leaf", none)) fd
  g_is_leaf : mg "is_leaf" = some (.ref (He.fAd K ("is_leaf", none)))
  d_measure : ∃ fd, FunD K "measure" "measure" (defArgs s_measure) (defBody s_measure) (defScope s_measure) [] [] (He.fAd K ("measure", none)) fd
  g_measure : mg "measure" = some (.ref (He.fAd K ("measure", none)))
  d_has_form : ∃ fd, FunD K "has_form" "has_form" (defArgs s_has_form) (defBody s_has_form) (defScope s_has_form) [] [] (He.fAd K ("has_form", none)) fd
  g_has_form : mg "has_form" = some (.ref (He.fAd K ("has_form", none)))
  d_is_term : ∃ fd, FunD K "is_term" "is_term" (defArgs s_is_term) (defBody s_is_term) (defScope s_is_term) [] [] (He.fAd K ("is_term", none)) fd
  g_is_term : mg "is_term" = some (.ref (He.fAd K ("is_term", none)))
  d_check_term : ∃ fd, FunD K "check_term" "check_term" (defArgs s_check_term) (defBody s_check_term) (defScope s_check_term) [] [] (He.fAd K ("check_term", none)) fd
  g_check_term : mg "check_term" = some (.ref (He.fAd K ("check_term", none)))
  d_spelled : ∃ fd, FunD K "spelled" "spelled" (defArgs s_spelled) (defBody s_spelled) (defScope s_spelled) [] [] (He.fAd K ("spelled", none)) fd
  g_spelled : mg "spelled" = some (.ref (He.fAd K ("spelled", none)))
  d_worded : ∃ fd, FunD K "worded" "worded" (defArgs s_worded) (defBody s_worded) (defScope s_worded) [] [] (He.fAd K ("worded", none)) fd
  g_worded : mg "worded" = some (.ref (He.fAd K ("worded", none)))
  d_word_end : ∃ fd, FunD K "word_end" "word_end" (defArgs s_word_end) (defBody s_word_end) (defScope s_word_end) [] [] (He.fAd K ("word_end", none)) fd
  g_word_end : mg "word_end" = some (.ref (He.fAd K ("word_end", none)))
  d_leaf_at : ∃ fd, FunD K "leaf_at" "leaf_at" (defArgs s_leaf_at) (defBody s_leaf_at) (defScope s_leaf_at) [] [] (He.fAd K ("leaf_at", none)) fd
  g_leaf_at : mg "leaf_at" = some (.ref (He.fAd K ("leaf_at", none)))
  d_behind : ∃ fd, FunD K "behind" "behind" (defArgs s_behind) (defBody s_behind) (defScope s_behind) [] [] (He.fAd K ("behind", none)) fd
  g_behind : mg "behind" = some (.ref (He.fAd K ("behind", none)))
  d_round_at : ∃ fd, FunD K "round_at" "round_at" (defArgs s_round_at) (defBody s_round_at) (defScope s_round_at) [] [] (He.fAd K ("round_at", none)) fd
  g_round_at : mg "round_at" = some (.ref (He.fAd K ("round_at", none)))
  d_box_at : ∃ fd, FunD K "box_at" "box_at" (defArgs s_box_at) (defBody s_box_at) (defScope s_box_at) [] [] (He.fAd K ("box_at", none)) fd
  g_box_at : mg "box_at" = some (.ref (He.fAd K ("box_at", none)))
  d_shut_at : ∃ fd, FunD K "shut_at" "shut_at" (defArgs s_shut_at) (defBody s_shut_at) (defScope s_shut_at) [] [] (He.fAd K ("shut_at", none)) fd
  g_shut_at : mg "shut_at" = some (.ref (He.fAd K ("shut_at", none)))
  d_word_at : ∃ fd, FunD K "word_at" "word_at" (defArgs s_word_at) (defBody s_word_at) (defScope s_word_at) [] [] (He.fAd K ("word_at", none)) fd
  g_word_at : mg "word_at" = some (.ref (He.fAd K ("word_at", none)))
  d_term_at : ∃ fd, FunD K "term_at" "term_at" (defArgs s_term_at) (defBody s_term_at) (defScope s_term_at) [] [] (He.fAd K ("term_at", none)) fd
  g_term_at : mg "term_at" = some (.ref (He.fAd K ("term_at", none)))
  d_read_any : ∃ fd, FunD K "read_any" "read_any" (defArgs s_read_any) (defBody s_read_any) (defScope s_read_any) [] [] (He.fAd K ("read_any", none)) fd
  g_read_any : mg "read_any" = some (.ref (He.fAd K ("read_any", none)))
  d_read_term : ∃ fd, FunD K "read_term" "read_term" (defArgs s_read_term) (defBody s_read_term) (defScope s_read_term) [] [] (He.fAd K ("read_term", none)) fd
  g_read_term : mg "read_term" = some (.ref (He.fAd K ("read_term", none)))
  d_law_bag : ∃ fd, FunD K "_law_bag" "_law_bag" (defArgs s_law_bag) (defBody s_law_bag) (defScope s_law_bag) [] [] (He.fAd K ("_law_bag", none)) fd
  g_law_bag : mg "_law_bag" = some (.ref (He.fAd K ("_law_bag", none)))
  d_law_draw : ∃ fd, FunD K "_law_draw" "_law_draw" (defArgs s_law_draw) (defBody s_law_draw) (defScope s_law_draw) [] [] (He.fAd K ("_law_draw", none)) fd
  g_law_draw : mg "_law_draw" = some (.ref (He.fAd K ("_law_draw", none)))
  d_law_same : ∃ fd, FunD K "_law_same" "_law_same" (defArgs s_law_same) (defBody s_law_same) (defScope s_law_same) [] [] (He.fAd K ("_law_same", none)) fd
  g_law_same : mg "_law_same" = some (.ref (He.fAd K ("_law_same", none)))
  d_law_names : ∃ fd, FunD K "_law_names" "_law_names" (defArgs s_law_names) (defBody s_law_names) (defScope s_law_names) [] [] (He.fAd K ("_law_names", none)) fd
  g_law_names : mg "_law_names" = some (.ref (He.fAd K ("_law_names", none)))
  d_law_pick : ∃ fd, FunD K "_law_pick" "_law_pick" (defArgs s_law_pick) (defBody s_law_pick) (defScope s_law_pick) [] [] (He.fAd K ("_law_pick", none)) fd
  g_law_pick : mg "_law_pick" = some (.ref (He.fAd K ("_law_pick", none)))
  d_law_leaf : ∃ fd, FunD K "_law_leaf" "_law_leaf" (defArgs s_law_leaf) (defBody s_law_leaf) (defScope s_law_leaf) [] [] (He.fAd K ("_law_leaf", none)) fd
  g_law_leaf : mg "_law_leaf" = some (.ref (He.fAd K ("_law_leaf", none)))
  d_law_pattern : ∃ fd, FunD K "_law_pattern" "_law_pattern" (defArgs s_law_pattern) (defBody s_law_pattern) (defScope s_law_pattern) [] [] (He.fAd K ("_law_pattern", none)) fd
  g_law_pattern : mg "_law_pattern" = some (.ref (He.fAd K ("_law_pattern", none)))
  d_law_term : ∃ fd, FunD K "_law_term" "_law_term" (defArgs s_law_term) (defBody s_law_term) (defScope s_law_term) [] [] (He.fAd K ("_law_term", none)) fd
  g_law_term : mg "_law_term" = some (.ref (He.fAd K ("_law_term", none)))
  d_law_spelled : ∃ fd, FunD K "_law_spelled" "_law_spelled" (defArgs s_law_spelled) (defBody s_law_spelled) (defScope s_law_spelled) [] [] (He.fAd K ("_law_spelled", none)) fd
  g_law_spelled : mg "_law_spelled" = some (.ref (He.fAd K ("_law_spelled", none)))
  d_law_wide : ∃ fd, FunD K "_law_wide" "_law_wide" (defArgs s_law_wide) (defBody s_law_wide) (defScope s_law_wide) [] [] (He.fAd K ("_law_wide", none)) fd
  g_law_wide : mg "_law_wide" = some (.ref (He.fAd K ("_law_wide", none)))
  d_law_nested : ∃ fd, FunD K "_law_nested" "_law_nested" (defArgs s_law_nested) (defBody s_law_nested) (defScope s_law_nested) [] [] (He.fAd K ("_law_nested", none)) fd
  g_law_nested : mg "_law_nested" = some (.ref (He.fAd K ("_law_nested", none)))
  d_law_right : ∃ fd, FunD K "_law_right" "_law_right" (defArgs s_law_right) (defBody s_law_right) (defScope s_law_right) [] [] (He.fAd K ("_law_right", none)) fd
  g_law_right : mg "_law_right" = some (.ref (He.fAd K ("_law_right", none)))
  d_law : ∃ fd, FunD K "law" "law" (defArgs s_law) (defBody s_law) (defScope s_law) [] [] (He.fAd K ("law", none)) fd
  g_law : mg "law" = some (.ref (He.fAd K ("law", none)))
  n_all : mg "all" = none
  n_bool : mg "bool" = none
  n_dict : mg "dict" = none
  n_int : mg "int" = none
  n_isinstance : mg "isinstance" = none
  n_len : mg "len" = none
  n_list : mg "list" = none
  n_max : mg "max" = none
  n_range : mg "range" = none
  n_str : mg "str" = none
  n_sum : mg "sum" = none
  n_tuple : mg "tuple" = none
  c_AND : ∃ t, mg "AND" = some (.str " & " t)
  c_BOX : ∃ t, mg "BOX" = some (.str "box" t)
  c_HALF : ∃ t, mg "HALF" = some (.str "half" t)
  c_MARK : ∃ t, mg "MARK" = some (.str "mark" t)
  c_MIX : ∃ t, mg "MIX" = some (.str "mix" t)
  c_MOST_DEPTH : ∃ t, mg "MOST_DEPTH" = some (.int 12 t)
  c_MOST_LETTERS : ∃ t, mg "MOST_LETTERS" = some (.int 8 t)
  c_MOST_NAMES : ∃ t, mg "MOST_NAMES" = some (.int 40 t)
  c_PAIR : ∃ t, mg "PAIR" = some (.str "pair" t)
  c_SHUT : ∃ t, mg "SHUT" = some (.str "shut" t)
  c_SMALL : ∃ t, mg "SMALL" = some (.str "abcdefghijklmnopqrstuvwxyz" t)
  c_VAR : ∃ t, mg "VAR" = some (.str "var" t)
  g_NAMED : mg "NAMED" = some (.ref (He.ga K "NAMED"))
  u_NAMED : ∀ H, SqT K H (He.ga K "NAMED") ((["half", "shut", "mark"] : List Str).map V.str)
  g_LENGTHS : mg "LENGTHS" = some (.ref (He.ga K "LENGTHS"))
  b_LENGTHS : ∀ {X : Cx}, X.K = K → X.w = w → TabAt X (He.ga K "LENGTHS") tab_LENGTHS
section
variable {P : Program} {w : World} {K : PySem.W.Frag} {mg : Str → Option Value} {base : Heap}
theorem has_draw (T : Top w K mg) : Has P w K mg base (He.ga K) "_law_draw" 2 m_draw := by
  obtain ⟨fd, D⟩ := T.d_law_draw
  refine ⟨_, fd, ["_law_bag_here", "_law_many"], T.g_law_draw, D.kp, D.bindsN fun _ _ _ _ _ _ us hl => match us, hl with | [_, _], _ => rfl, D.ok (k := 1) sc_law_draw (fun vs H Q E h => ?_) fun cdv A outer s H vs Q E hr h => ?_⟩
  · obtain ⟨B, m, rfl, _⟩ := draw_end h
    rfl
  obtain ⟨B, m, rfl, hm, hm2, ⟨nlb, ns, i, r, k, sd, hb, hl, hi, hr0, hk, hs, hs2⟩, kq⟩ := draw_end h
  have bx : ∀ (ys : List V) (i' r' k' sd' : Int), ys = [.ref B.l, .int i', .int r', .int k', .int sd'] → 0 ≤ i' → 0 ≤ r' → 0 ≤ k' → 0 ≤ sd' → sd' < 2147483629 → Ex B H (upd H B.b (.lst ys)) := fun ys i' r' k' sd' e h1 h2 h3 h4 h5 => ex_bag hb ⟨nlb, ns, i', r', k', sd', by rw [upd_same, e], by rw [upd_ne nlb]; exact hl, h1, h2, h3, h4, h5⟩
  have at_ : ∀ (xs : List V) (j : Nat) (v : V), xs.length = 5 → xs[j]? = some v → j < 5 → atI xs ((j : Nat) : Int) = some v := fun xs j v h1 h2 h3 => by
    unfold atI ixN
    rw [if_pos (by omega), if_pos (by omega)]
    simpa using h2
  have ix_ : ∀ (j : Nat), j < 5 → ixN 5 ((j : Nat) : Int) = some j := fun j h => by
    unfold ixN
    rw [if_pos (by omega), if_pos (by omega)]
    simp
  refine ⟨_, PSs.nox (pss_cons (ps_asg (pe_op op_add (pe_ix ix_list (pv 0) pe_int (fun _ _ => rfl)) pe_int) (pg_sub (pv 0) pe_int set_list))
    (Evl.pss_cut (ps_if (PW.pt (pw_and (pt_cmpR op_eq (pe_ix ix_list (pv 0) pe_int (fun _ _ => rfl)) pe_int (nomark _)) (pw_and1 (pt_cmpR op_lt (pe_ix ix_list (pv 0) pe_int (fun _ _ => rfl)) (pe_callB call_len_seq rfl T.n_len boot_len (pa_cons (pe_ix ix_list (pv 0) pe_int (fun _ _ => rfl)) pa_nil)) (nomark _)))))
      (pss_cons (ps_set (i := 2) sc_law_draw.nd rfl (Or.inl rfl) (pe_ix ix_list (pe_ix ix_list (pv 0) pe_int (fun _ _ => rfl)) (pe_ix ix_list (pv 0) pe_int (fun _ _ => rfl)) (fun _ _ => rfl)))
      (pss_cons (ps_asg (pe_op op_add (pe_ix ix_list (pv 0) pe_int (fun _ _ => rfl)) pe_int) (pg_sub (pv 0) pe_int set_list))
      (pss_one (ps_if (pt_cmpR op_ge (pv 2) (pe_op op_pow pe_int pe_int) (nomark _))
        (pss_one (ps_asg (pv 2) (pg_sub (pv 0) pe_int set_list)))
        (pss_one (ps_asg (pe_op op_mod (pe_callTy call_int1 rfl T.n_int boot_int (pa_cons (pe_op op_add (pe_op op_add (pe_op op_mul (pe_ix ix_list (pv 0) pe_int (fun _ _ => rfl)) pe_int) (pv 2)) pe_int) pa_nil)) pe_int) (pg_sub (pv 0) pe_int set_list)))))))
      pss_nil)
    (pss_cons (ps_if (pt_cmpR op_gt (pe_ix ix_list (pv 0) pe_int (fun _ _ => rfl)) pe_int (nomark _))
      (pss_cons (ps_set (i := 3) sc_law_draw.nd rfl (Or.inl rfl) (pe_op op_mod (pe_callTy call_int1 rfl T.n_int boot_int (pa_cons (pe_ix ix_list (pv 0) pe_int (fun _ _ => rfl)) pa_nil)) (pv 1)))
      (pss_cons (ps_asg (pe_op op_fdivW (pe_ix ix_list (pv 0) pe_int (fun _ _ => rfl)) (pv 1)) (pg_sub (pv 0) pe_int set_list))
      (pss_one (ps_ret (pv 3)))))
      pss_nil)
    (pss_cons (ps_set (i := 4) sc_law_draw.nd rfl (Or.inl rfl) (pe_op op_mod (pe_callTy call_int1 rfl T.n_int boot_int (pa_cons (pe_op op_add (pe_op op_add (pe_op op_mul (pe_ix ix_list (pv 0) pe_int (fun _ _ => rfl)) pe_int) (pe_op op_mul (pe_ix ix_list (pv 0) pe_int (fun _ _ => rfl)) pe_int)) pe_int) pa_nil)) pe_int))
    (pss_cons (ps_set (i := 4) sc_law_draw.nd rfl (Or.inl rfl) (pe_op op_mod (pe_callTy call_int1 rfl T.n_int boot_int (pa_cons (pe_op op_mul (pv 4) (pe_op op_add (pe_op op_fdivW (pv 4) pe_int) pe_int)) pa_nil)) pe_int))
    (pss_cons (ps_set (i := 4) sc_law_draw.nd rfl (Or.inl rfl) (pe_op op_mod (pe_callTy call_int1 rfl T.n_int boot_int (pa_cons (pe_op op_mul (pv 4) (pe_op op_add (pe_op op_fdivW (pv 4) pe_int) pe_int)) pa_nil)) pe_int))
    (pss_one (ps_ret (pe_op op_mod (pe_callTy call_int1 rfl T.n_int boot_int (pa_cons (pe_op op_fdivW (pv 4) pe_int) pa_nil)) (pv 1)))))))))), ?_⟩
  -- bag[3] = bag[3] + 1
  refine ⟨_, rfl, B.b, _, 3, .int k, rfl, rfl, SqL.of hb, at_ _ 3 _ rfl rfl (by decide), _, _, rfl, rfl, _, rfl, B.b, _, 3, 3, rfl, rfl, hb, ix_ 3 (by decide), ?_⟩
  -- the first if leaves a bag
  refine ⟨fun σ' H' => ∃ (c : Option V) (i' r' k' sd' : Int), σ' = [some (.ref B.b), some (.int m), c, none, none] ∧ H' = upd H B.b (.lst [.ref B.l, .int i', .int r', .int k', .int sd']) ∧ 0 ≤ i' ∧ 0 ≤ r' ∧ 0 ≤ k' ∧ 0 ≤ sd' ∧ sd' < 2147483629, ?_, ?_⟩
  · have hb1 : (upd H B.b (.lst [.ref B.l, .int i, .int r, .int (k + 1), .int sd])) B.b = some (.lst [.ref B.l, .int i, .int r, .int (k + 1), .int sd]) := upd_same
    have hl1 : (upd H B.b (.lst [.ref B.l, .int i, .int r, .int (k + 1), .int sd])) B.l = some (.lst (ns.map V.int)) := by rw [upd_ne nlb]; exact hl
    refine ⟨_, rfl, B.b, _, 2, .int r, rfl, rfl, SqL.of hb1, at_ _ 2 _ rfl rfl (by decide), rfl, _, rfl, ?_⟩
    have fin0 : ∃ (c : Option V) (i' r' k' sd' : Int), [some (V.ref B.b), some (.int m), none, none, none] = [some (.ref B.b), some (.int m), c, none, none] ∧ upd H B.b (.lst [.ref B.l, .int i, .int r, .int (k + 1), .int sd]) = upd H B.b (.lst [.ref B.l, .int i', .int r', .int k', .int sd']) ∧ 0 ≤ i' ∧ 0 ≤ r' ∧ 0 ≤ k' ∧ 0 ≤ sd' ∧ sd' < 2147483629 := ⟨none, i, r, k + 1, sd, rfl, rfl, hi, hr0, by omega, hs, hs2⟩
    refine ite2 (fun hr1 => ?_) (fun _ => ?_)
    · refine ⟨_, rfl, B.b, _, 1, .int i, rfl, rfl, SqL.of hb1, at_ _ 1 _ rfl rfl (by decide), _, rfl, B.b, _, 0, .ref B.l, rfl, rfl, SqL.of hb1, at_ _ 0 _ rfl rfl (by decide), B.l, _, rfl, .inl (SqL.of hl1), _, _, rfl, rfl, _, rfl, ?_⟩
      refine ite2 (fun hi1 => ?_) (fun _ => fin0)
      have hi2 : i < ((ns.map V.int).length : Int) := of_decide_eq_true hi1
      have hi3 : i.toNat < ns.length := by rw [List.length_map] at hi2; omega
      have hc : atI (ns.map V.int) i = some (.int ns[i.toNat]) := by
        unfold atI ixN
        rw [if_pos hi, if_pos hi2]
        simp [hi3]
      refine ⟨_, rfl, B.b, _, 0, .ref B.l, rfl, rfl, SqL.of hb1, at_ _ 0 _ rfl rfl (by decide), _, rfl, B.b, _, 1, .int i, rfl, rfl, SqL.of hb1, at_ _ 1 _ rfl rfl (by decide), B.l, _, i, _, rfl, rfl, SqL.of hl1, hc, ?_⟩
      refine ⟨_, rfl, B.b, _, 1, .int i, rfl, rfl, SqL.of hb1, at_ _ 1 _ rfl rfl (by decide), _, _, rfl, rfl, _, rfl, B.b, _, 1, 1, rfl, rfl, hb1, ix_ 1 (by decide), ?_⟩
      refine ⟨_, rfl, _, _, rfl, rfl, ⟨by decide, by decide, by decide⟩, _, _, rfl, rfl, _, rfl, ?_⟩
      have hb2 : (upd (upd H B.b (.lst [.ref B.l, .int i, .int r, .int (k + 1), .int sd])) B.b (.lst [.ref B.l, .int (i + 1), .int r, .int (k + 1), .int sd])) B.b = some (.lst [.ref B.l, .int (i + 1), .int r, .int (k + 1), .int sd]) := upd_same
      refine ite2 (fun hge => ?_) (fun _ => ?_)
      · have hge2 : ((10 : Int) ^ (18 : Int).toNat) ≤ ns[i.toNat] := of_decide_eq_true hge
        have hge3 : (0 : Int) ≤ (10 : Int) ^ (18 : Int).toNat := by decide
        refine ⟨_, rfl, _, rfl, B.b, _, 2, 2, rfl, rfl, hb2, ix_ 2 (by decide), ⟨some (.int ns[i.toNat]), i + 1, ns[i.toNat], k + 1, sd, rfl, ?_, by omega, by omega, by omega, hs, hs2⟩⟩
        show upd (upd (upd H B.b _) B.b _) B.b _ = _
        rw [upd_upd, upd_upd]
        rfl
      · refine ⟨_, rfl, B.b, _, 4, .int sd, rfl, rfl, SqL.of hb2, at_ _ 4 _ rfl rfl (by decide), _, _, rfl, rfl, .inr ⟨by decide, by decide⟩, _, rfl, _, _, rfl, rfl, _, _, rfl, rfl, .inl ⟨_, rfl, _, _, rfl, rfl, (by show (0 : Int) < _; decide), ?_⟩⟩
        refine ⟨_, rfl, B.b, _, 4, 4, rfl, rfl, hb2, ix_ 4 (by decide), ⟨some (.int ns[i.toNat]), i + 1, r, k + 1, (sd * 31 + ns[i.toNat] + 3203) % 2147483629, rfl, ?_, by omega, hr0, by omega, Int.emod_nonneg _ (by decide), Int.emod_lt_of_pos _ (by decide)⟩⟩
        show upd (upd (upd H B.b _) B.b _) B.b _ = _
        rw [upd_upd, upd_upd]
        rfl
    · exact fin0
  · rintro σ' H' ⟨c, i', r', k', sd', rfl, rfl, hi', hr', hk', hs', hs2'⟩
    have hb1 : (upd H B.b (.lst [.ref B.l, .int i', .int r', .int k', .int sd'])) B.b = some (.lst [.ref B.l, .int i', .int r', .int k', .int sd']) := upd_same
    refine ⟨_, rfl, B.b, _, 2, .int r', rfl, rfl, SqL.of hb1, at_ _ 2 _ rfl rfl (by decide), _, _, rfl, rfl, _, rfl, ?_⟩
    refine ite2 (fun hp => ?_) (fun _ => ?_)
    · refine ⟨_, rfl, B.b, _, 2, .int r', rfl, rfl, SqL.of hb1, at_ _ 2 _ rfl rfl (by decide), .inl ⟨_, rfl, _, rfl, _, _, rfl, rfl, hm, ?_⟩⟩
      refine ⟨_, rfl, B.b, _, 2, .int r', rfl, rfl, SqL.of hb1, at_ _ 2 _ rfl rfl (by decide), _, rfl, _, _, rfl, rfl, wide_div hm (b := 4000) (by omega) (by decide) (by decide), _, rfl, B.b, _, 2, 2, rfl, rfl, hb1, ix_ 2 (by decide), ?_⟩
      refine ⟨_, rfl, kq _ _ (Int.emod_nonneg _ (by omega)) (Int.emod_lt_of_pos _ hm) ?_⟩
      rw [upd_upd]
      exact bx _ i' (r' / m) k' sd' rfl hi' (Int.ediv_nonneg hr' (by omega)) hk' hs' hs2'
    · have mz : ∀ x : Int, (0 : Int) ≤ x % 2147483647 ∧ x % 2147483647 < 2147483647 := fun x => ⟨Int.emod_nonneg _ (by decide), Int.emod_lt_of_pos _ (by decide)⟩
      have big : ∀ x : Int, (0 : Int) ≤ x ∧ x < 2147483647 → -(2 ^ 64) < x ∧ x < 2 ^ 64 := fun x hx => ⟨by omega, by omega⟩
      have c32 : ∀ j : Int, 0 < j → j < 2 ^ 30 → ∀ x : Int, CDivW x j := fun j h1 h2 x => wide_div h1 (b := 30) (by omega) (by decide) (by decide)
      refine ⟨_, rfl, B.b, _, 4, .int sd', rfl, rfl, SqL.of hb1, at_ _ 4 _ rfl rfl (by decide), _, _, rfl, rfl, .inr ⟨by decide, by decide⟩, _, rfl, B.b, _, 3, .int k', rfl, rfl, SqL.of hb1, at_ _ 3 _ rfl rfl (by decide), _, _, rfl, rfl, .inr ⟨by decide, by decide⟩, _, _, rfl, rfl, _, _, rfl, rfl, .inl ⟨_, rfl, _, _, rfl, rfl, (by show (0 : Int) < _; decide), ?_⟩⟩
      refine ⟨_, rfl, _, rfl, _, _, rfl, rfl, c32 _ (by decide) (by decide) _, _, _, rfl, rfl, _, _, rfl, rfl, .inl (big _ (mz _)), .inl ⟨_, rfl, _, _, rfl, rfl, (by show (0 : Int) < _; decide), ?_⟩⟩
      refine ⟨_, rfl, _, rfl, _, _, rfl, rfl, c32 _ (by decide) (by decide) _, _, _, rfl, rfl, _, _, rfl, rfl, .inl (big _ (mz _)), .inl ⟨_, rfl, _, _, rfl, rfl, (by show (0 : Int) < _; decide), ?_⟩⟩
      refine ⟨_, rfl, _, _, rfl, rfl, c32 _ (by decide) (by decide) _, .inl ⟨_, rfl, _, rfl, _, _, rfl, rfl, hm, ?_⟩⟩
      exact kq _ _ (Int.emod_nonneg _ (by omega)) (Int.emod_lt_of_pos _ hm) (bx _ i' r' k' sd' rfl hi' hr' hk' hs' hs2')
def m_is_name : DFn := dFn 2 1
    (dSeq (dIfS (dOr (dNot (dTest (dCB rIsi (dCons (dVar 0) (dCons (dC (.ty "str")) dNil))))) (dNot (dTest (dChain rLe rLe (dC (.int 1)) (dCB rLen (dCons (dVar 0) dNil)) (dC (.int 8)))))) (dRet (dC (.bl false))) dNext)
    (dRet (dCB rAll (dCons (dLc (dItems (dVar 0)) (tName 1) dYes (dOp (rIn false) (dVar 1) (dC (.str "abcdefghijklmnopqrstuvwxyz"))) [1]) dNil))))
theorem has_is_name (T : Top w K mg) : Has P w K mg base (He.ga K) "is_name" 1 m_is_name := by
  obtain ⟨fd, D⟩ := T.d_is_name
  exact has_of (k := 0) D T.g_is_name sc_is_name rfl rfl (D.bindsN fun _ _ _ _ _ _ us hl => match us, hl with | [_], _ => rfl)
    (fun cdv A outer s H E B O hr => by
    have tk : Takes (cxOf (L2.CX P w) P w K mg base ["thing", "letter"] "is_name" (defScope s_is_name) (He.fAd K ("is_name", none)) cdv A outer s H E) (fun cls d _ H => E cls d H) := takes_of rfl rfl rfl rfl
    have po : PassesOwn (model P w) (cxOf (L2.CX P w) P w K mg base ["thing", "letter"] "is_name" (defScope s_is_name) (He.fAd K ("is_name", none)) cdv A outer s H E).A (cxOf (L2.CX P w) P w K mg base ["thing", "letter"] "is_name" (defScope s_is_name) (He.fAd K ("is_name", none)) cdv A outer s H E).env (cxOf (L2.CX P w) P w K mg base ["thing", "letter"] "is_name" (defScope s_is_name) (He.fAd K ("is_name", none)) cdv A outer s H E).xe := po_of rfl
    exact (sCons (sIf (yW (wOr (yNot (yVal (xCallB cIsi rfl T.n_isinstance (by decide +kernel) (aCons (xVar (pv 0)) (aCons (xTy rfl T.n_str (by decide +kernel)) aNil))))) (wOr1 (yNot (yChainD oLe oLe xInt (xCallB cLen rfl T.n_len (by decide +kernel) (aCons (xVar (pv 0)) aNil)) (xGInt T.c_MOST_LETTERS)))))) (sOne (sRet xBl)) sNil)
      (sOne (sRet (xCallB (cAll rfl) rfl T.n_all (by decide +kernel) (aCons (xNew (nLc rfl sc_is_name.nd (blkOk_by (own := [("letter", 1)]) (by kernel_rfl)) (iSeq (xVar (pv 0))) (fun _ _ _ _ _ _ => (gName1 (pg_name (i := 1) sc_is_name.nd rfl (by first | exact Or.inl rfl | exact Or.inr rfl)) (by decide))) (fun _ _ _ _ _ _ => tYesD) (fun _ _ _ _ _ _ => (xCmpD (oIn (hu65 hr)) (xVar (pv 1)) (xGStr T.c_SMALL (okS_by (by decide +kernel))))))) aNil))))))
def m_is_leaf : DFn := dFn 2 2
    (dSeq (dIfS (dTest (dCall m_is_name (dCons (dVar 0) dNil))) (dRet (dC (.bl true))) dNext)
    (dRet (dAndV (dVar 1) (dAndV (dCB rIsi (dCons (dVar 0) (dCons (dC (.ty "tuple")) dNil))) (dAndV (dOp rEq (dCB rLen (dCons (dVar 0) dNil)) (dC (.int 2))) (dAndV (dOp rEq (dOp rIx (dVar 0) (dC (.int 0))) (dC (.str "var"))) (dCall m_is_name (dCons (dOp rIx (dVar 0) (dC (.int 1))) dNil))))))))
theorem has_is_leaf (T : Top w K mg) : Has P w K mg base (He.ga K) "is_leaf" 2 m_is_leaf := by
  obtain ⟨fd, D⟩ := T.d_is_leaf
  have h_is_name := has_is_name (P := P) (base := base) T
  exact has_of (k := 1) D T.g_is_leaf sc_is_leaf rfl rfl (D.bindsN fun _ _ _ _ _ _ us hl => match us, hl with | [_, _], _ => rfl)
    (fun cdv A outer s H E B O hr => by
    have tk : Takes (cxOf (L2.CX P w) P w K mg base ["thing", "open_so"] "is_leaf" (defScope s_is_leaf) (He.fAd K ("is_leaf", none)) cdv A outer s H E) (fun cls d _ H => E cls d H) := takes_of rfl rfl rfl rfl
    have po : PassesOwn (model P w) (cxOf (L2.CX P w) P w K mg base ["thing", "open_so"] "is_leaf" (defScope s_is_leaf) (He.fAd K ("is_leaf", none)) cdv A outer s H E).A (cxOf (L2.CX P w) P w K mg base ["thing", "open_so"] "is_leaf" (defScope s_is_leaf) (He.fAd K ("is_leaf", none)) cdv A outer s H E).env (cxOf (L2.CX P w) P w K mg base ["thing", "open_so"] "is_leaf" (defScope s_is_leaf) (He.fAd K ("is_leaf", none)) cdv A outer s H E).xe := po_of rfl
    exact (sCons (sIf (yVal (xCall h_is_name (hr.mono (by omega)) tk rfl (aCons (xVar (pv 0)) aNil))) (sOne (sRet xBl)) sNil)
      (sOne (sRet (xAnd (xVar (pv 1)) (xAnd (xCallB cIsi rfl T.n_isinstance (by decide +kernel) (aCons (xVar (pv 0)) (aCons (xTy rfl T.n_tuple (by decide +kernel)) aNil))) (xAnd (xCmpD (oEq (hu64 hr)) (xCallB cLen rfl T.n_len (by decide +kernel) (aCons (xVar (pv 0)) aNil)) xInt) (xAnd (xCmpD (oEq (hu64 hr)) (xIx (hu65 hr) (xVar (pv 0)) xInt) (xGStr T.c_VAR (okS_by (by decide +kernel)))) (xOne (xCall h_is_name (hr.mono (by omega)) tk rfl (aCons (xIx (hu65 hr) (xVar (pv 0)) xInt) aNil)))))))))))
def m_measure : Nat → DFn
  | 0 => fun _ _ _ => False
  | n + 1 => dFn 6 3
    (dSeq (dIfS (dTest (dCall m_is_leaf (dCons (dVar 0) (dCons (dVar 1) dNil)))) (dRet (dTup (dCons (dC (.int 1)) (dCons (dC (.int 1)) dNil)))) dNext)
    (dSeq (dIfS (dOr (dTest (dOp rEq (dVar 2) (dC (.int 1)))) (dOr (dNot (dTest (dCB rIsi (dCons (dVar 0) (dCons (dC (.ty "tuple")) dNil))))) (dOr (dTest (dOp rEq (dCB rLen (dCons (dVar 0) dNil)) (dC (.int 0)))) (dNot (dTest (dCB rIsi (dCons (dOp rIx (dVar 0) (dC (.int 0))) (dCons (dC (.ty "str")) dNil)))))))) (dRet (dC .non)) dNext)
    (dSeq (dIfS (dOr (dTest (dInTab true tab_LENGTHS (dOp rIx (dVar 0) (dC (.int 0))))) (dTest (dOp rNe (dCB rLen (dCons (dVar 0) dNil)) (dIxTab tab_LENGTHS (dOp rIx (dVar 0) (dC (.int 0))))))) (dRet (dC .non)) dNext)
    (dSeq (dIfS (dAnd (dTest (dOp (rIn false) (dOp rIx (dVar 0) (dC (.int 0))) (dC (.tup ((["half", "shut", "mark"] : List Str).map D.str))))) (dNot (dTest (dCall m_is_leaf (dCons (dOp rIx (dVar 0) (dC (.int 1))) (dCons (dVar 1) dNil)))))) (dRet (dC .non)) dNext)
    (dSeq (dAsg 3 (dLc (dItems (dSl (dVar 0) (dPart (dC (.int 1))) dNoPart)) (tName 4) dYes (dCall (m_measure n) (dCons (dVar 4) (dCons (dVar 1) (dCons (dOp rSub (dVar 2) (dC (.int 1))) dNil)))) [4]))
    (dSeq (dIfS (dTest (dOp (rIn false) (dC .non) (dVar 3))) (dRet (dC .non)) dNext)
    (dRet (dTup (dCons (dCB rSum (dCons (dLc (dItems (dVar 3)) (tName 5) dYes (dOp rIx (dVar 5) (dC (.int 0))) [5]) dNil)) (dCons (dOp rAdd (dC (.int 1)) (dCB rMax (dCons (dLc (dItems (dVar 3)) (tName 5) dYes (dOp rIx (dVar 5) (dC (.int 1))) [5]) dNil))) dNil))))))))))
theorem has_measure (T : Top w K mg) : ∀ n : Nat, Has P w K mg base (He.ga K) "measure" (3 + 1 * n) (m_measure n)
  | 0 => by
    obtain ⟨fd, D⟩ := T.d_measure
    exact has_false (ps := ["thing", "open_so", "room"]) D T.g_measure (D.bindsN fun _ _ _ _ _ _ us hl => match us, hl with | [_, _, _], _ => rfl)
  | n + 1 => by
    obtain ⟨fd, D⟩ := T.d_measure
    have h_measure := has_measure T n
    have h_is_leaf := has_is_leaf (P := P) (base := base) T
    exact Has.mono (has_of (k := 3 + 1 * n) D T.g_measure sc_measure rfl rfl (D.bindsN fun _ _ _ _ _ _ us hl => match us, hl with | [_, _, _], _ => rfl)
    (fun cdv A outer s H E B O hr => by
    have tk : Takes (cxOf (L2.CX P w) P w K mg base ["thing", "open_so", "room", "rows", "part", "row"] "measure" (defScope s_measure) (He.fAd K ("measure", none)) cdv A outer s H E) (fun cls d _ H => E cls d H) := takes_of rfl rfl rfl rfl
    have po : PassesOwn (model P w) (cxOf (L2.CX P w) P w K mg base ["thing", "open_so", "room", "rows", "part", "row"] "measure" (defScope s_measure) (He.fAd K ("measure", none)) cdv A outer s H E).A (cxOf (L2.CX P w) P w K mg base ["thing", "open_so", "room", "rows", "part", "row"] "measure" (defScope s_measure) (He.fAd K ("measure", none)) cdv A outer s H E).env (cxOf (L2.CX P w) P w K mg base ["thing", "open_so", "room", "rows", "part", "row"] "measure" (defScope s_measure) (He.fAd K ("measure", none)) cdv A outer s H E).xe := po_of rfl
    exact (sCons (sIf (yVal (xCall h_is_leaf (hr.mono (by omega)) tk rfl (aCons (xVar (pv 0)) (aCons (xVar (pv 1)) aNil)))) (sOne (sRet (xTup (aCons xInt (aCons xInt aNil))))) sNil)
      (sCons (sIf (yW (wOr (yCmpD (oEq (hu64 hr)) (xVar (pv 2)) xInt) (wOr (yNot (yVal (xCallB cIsi rfl T.n_isinstance (by decide +kernel) (aCons (xVar (pv 0)) (aCons (xTy rfl T.n_tuple (by decide +kernel)) aNil))))) (wOr (yCmpD (oEq (hu64 hr)) (xCallB cLen rfl T.n_len (by decide +kernel) (aCons (xVar (pv 0)) aNil)) xInt) (wOr1 (yNot (yVal (xCallB cIsi rfl T.n_isinstance (by decide +kernel) (aCons (xIx (hu65 hr) (xVar (pv 0)) xInt) (aCons (xTy rfl T.n_str (by decide +kernel)) aNil)))))))))) (sOne (sRet xNon)) sNil)
      (sCons (sIf (yW (wOr (yNotInTab (T.b_LENGTHS rfl rfl) (xIx (hu65 hr) (xVar (pv 0)) xInt) (pGRef T.g_LENGTHS)) (wOr1 (yCmpD (oNe (hu64 hr)) (xCallB cLen rfl T.n_len (by decide +kernel) (aCons (xVar (pv 0)) aNil)) (xIxTab (T.b_LENGTHS rfl rfl) (pGRef T.g_LENGTHS) (xIx (hu65 hr) (xVar (pv 0)) xInt)))))) (sOne (sRet xNon)) sNil)
      (sCons (sIf (yW (wAnd (yCmpD (oIn (hu65 hr)) (xIx (hu65 hr) (xVar (pv 0)) xInt) (xGTup T.g_NAMED T.u_NAMED (by decide +kernel))) (wAnd1 (yNot (yVal (xCall h_is_leaf (hr.mono (by omega)) tk rfl (aCons (xIx (hu65 hr) (xVar (pv 0)) xInt) (aCons (xVar (pv 1)) aNil)))))))) (sOne (sRet xNon)) sNil)
      (sCons (sLcSet (i := 3) rfl sc_measure.nd rfl rfl (sw_true rfl rfl rfl (by decide +kernel)) (blkOk_by (own := [("part", 4)]) (by kernel_rfl)) (iSeq (xSl (xVar (pv 0)) (oSome xInt) oNone)) (fun _ _ _ _ _ _ => (gName1 (pg_name (i := 4) sc_measure.nd rfl (by first | exact Or.inl rfl | exact Or.inr rfl)) (by decide))) (fun _ _ _ _ _ _ => tYesD) (fun _ _ _ _ _ _ => (xCall h_measure (hr.mono (by omega)) takes0 rfl (aCons (xVar (pv 4)) (aCons (xVar (pv 1)) (aCons (xOpD oSub (xVar (pv 2)) xInt) aNil))))))
      (sCons (sIf (yCmpD (oIn (hu65 hr)) xNon (xVar (pv 3))) (sOne (sRet xNon)) sNil)
      (sOne (sRet (xTup (aCons (xCallB (cSum rfl) rfl T.n_sum (by decide +kernel) (aCons (xNew (nLc rfl sc_measure.nd (blkOk_by (own := [("row", 5)]) (by kernel_rfl)) (iSeq (xVar (pv 3))) (fun _ _ _ _ _ _ => (gName1 (pg_name (i := 5) sc_measure.nd rfl (by first | exact Or.inl rfl | exact Or.inr rfl)) (by decide))) (fun _ _ _ _ _ _ => tYesD) (fun _ _ _ _ _ _ => (xIx (hu65 hr) (xVar (pv 5)) xInt)))) aNil)) (aCons (xOpD oAdd xInt (xCallB (cMax rfl) rfl T.n_max (by decide +kernel) (aCons (xNew (nLc rfl sc_measure.nd (blkOk_by (own := [("row", 5)]) (by kernel_rfl)) (iSeq (xVar (pv 3))) (fun _ _ _ _ _ _ => (gName1 (pg_name (i := 5) sc_measure.nd rfl (by first | exact Or.inl rfl | exact Or.inr rfl)) (by decide))) (fun _ _ _ _ _ _ => tYesD) (fun _ _ _ _ _ _ => (xIx (hu65 hr) (xVar (pv 5)) xInt)))) aNil))) aNil))))))))))))) (by omega)
def m_has_form : DFn := dFn 3 2
    (dSeq (dAsg 2 (dCall (m_measure 13) (dCons (dVar 0) (dCons (dVar 1) (dCons (dC (.int 12)) dNil)))))
    (dRet (dAndV (dOp rIsNot (dVar 2) (dC .non)) (dOp rLe (dOp rIx (dVar 2) (dC (.int 0))) (dC (.int 40))))))
theorem has_has_form (T : Top w K mg) : Has P w K mg base (He.ga K) "has_form" 17 m_has_form := by
  obtain ⟨fd, D⟩ := T.d_has_form
  have h_measure := has_measure (P := P) (base := base) T 13
  exact has_of (k := 16) D T.g_has_form sc_has_form rfl rfl (D.bindsN fun _ _ _ _ _ _ us hl => match us, hl with | [_, _], _ => rfl)
    (fun cdv A outer s H E B O hr => by
    have tk : Takes (cxOf (L2.CX P w) P w K mg base ["thing", "open_so", "found"] "has_form" (defScope s_has_form) (He.fAd K ("has_form", none)) cdv A outer s H E) (fun cls d _ H => E cls d H) := takes_of rfl rfl rfl rfl
    have po : PassesOwn (model P w) (cxOf (L2.CX P w) P w K mg base ["thing", "open_so", "found"] "has_form" (defScope s_has_form) (He.fAd K ("has_form", none)) cdv A outer s H E).A (cxOf (L2.CX P w) P w K mg base ["thing", "open_so", "found"] "has_form" (defScope s_has_form) (He.fAd K ("has_form", none)) cdv A outer s H E).env (cxOf (L2.CX P w) P w K mg base ["thing", "open_so", "found"] "has_form" (defScope s_has_form) (He.fAd K ("has_form", none)) cdv A outer s H E).xe := po_of rfl
    exact (sCons (sSet (i := 2) sc_has_form.nd rfl (by first | exact Or.inl rfl | exact Or.inr rfl) (xCall h_measure (hr.mono (by omega)) tk rfl (aCons (xVar (pv 0)) (aCons (xVar (pv 1)) (aCons (xGInt T.c_MOST_DEPTH) aNil)))))
      (sOne (sRet (xAnd (xCmpD oIsNot (xVar (pv 2)) xNon) (xOne (xCmpD oLe (xIx (hu65 hr) (xVar (pv 2)) xInt) (xGInt T.c_MOST_NAMES))))))))
def m_is_term : DFn := dFn 1 1
    (dRet (dCall m_has_form (dCons (dVar 0) (dCons (dC (.bl false)) dNil))))
theorem has_is_term (T : Top w K mg) : Has P w K mg base (He.ga K) "is_term" 18 m_is_term := by
  obtain ⟨fd, D⟩ := T.d_is_term
  have h_has_form := has_has_form (P := P) (base := base) T
  exact has_of (k := 17) D T.g_is_term sc_is_term rfl rfl (D.bindsN fun _ _ _ _ _ _ us hl => match us, hl with | [_], _ => rfl)
    (fun cdv A outer s H E B O hr => by
    have tk : Takes (cxOf (L2.CX P w) P w K mg base ["thing"] "is_term" (defScope s_is_term) (He.fAd K ("is_term", none)) cdv A outer s H E) (fun cls d _ H => E cls d H) := takes_of rfl rfl rfl rfl
    have po : PassesOwn (model P w) (cxOf (L2.CX P w) P w K mg base ["thing"] "is_term" (defScope s_is_term) (He.fAd K ("is_term", none)) cdv A outer s H E).A (cxOf (L2.CX P w) P w K mg base ["thing"] "is_term" (defScope s_is_term) (He.fAd K ("is_term", none)) cdv A outer s H E).env (cxOf (L2.CX P w) P w K mg base ["thing"] "is_term" (defScope s_is_term) (He.fAd K ("is_term", none)) cdv A outer s H E).xe := po_of rfl
    exact (sOne (sRet (xCall h_has_form (hr.mono (by omega)) tk rfl (aCons (xVar (pv 0)) (aCons xBl aNil))))))
def m_check_term : DFn := dFn 1 1
    (dIfS (dNot (dTest (dCall m_is_term (dCons (dVar 0) dNil)))) dNever dNext)
theorem has_check_term (T : Top w K mg) : Has P w K mg base (He.ga K) "check_term" 19 m_check_term := by
  obtain ⟨fd, D⟩ := T.d_check_term
  have h_is_term := has_is_term (P := P) (base := base) T
  exact has_of (k := 18) D T.g_check_term sc_check_term rfl rfl (D.bindsN fun _ _ _ _ _ _ us hl => match us, hl with | [_], _ => rfl)
    (fun cdv A outer s H E B O hr => by
    have tk : Takes (cxOf (L2.CX P w) P w K mg base ["term"] "check_term" (defScope s_check_term) (He.fAd K ("check_term", none)) cdv A outer s H E) (fun cls d _ H => E cls d H) := takes_of rfl rfl rfl rfl
    have po : PassesOwn (model P w) (cxOf (L2.CX P w) P w K mg base ["term"] "check_term" (defScope s_check_term) (He.fAd K ("check_term", none)) cdv A outer s H E).A (cxOf (L2.CX P w) P w K mg base ["term"] "check_term" (defScope s_check_term) (He.fAd K ("check_term", none)) cdv A outer s H E).env (cxOf (L2.CX P w) P w K mg base ["term"] "check_term" (defScope s_check_term) (He.fAd K ("check_term", none)) cdv A outer s H E).xe := po_of rfl
    exact (sOne (sIf (yNot (yVal (xCall h_is_term (hr.mono (by omega)) tk rfl (aCons (xVar (pv 0)) aNil)))) sNever sNil)))
def m_spelled : Nat → DFn
  | 0 => fun _ _ _ => False
  | n + 1 => dFn 4 1
    (dSeq (dIfS (dTest (dCB rIsi (dCons (dVar 0) (dCons (dC (.ty "str")) dNil)))) (dRet (dVar 0)) dNext)
    (dSeq (dIfS (dTest (dOp rEq (dOp rIx (dVar 0) (dC (.int 0))) (dC (.str "var")))) (dRet (dOp rAdd (dC (.str "?")) (dOp rIx (dVar 0) (dC (.int 1))))) dNext)
    (dSeq (dAsg 1 (dLc (dItems (dSl (dVar 0) (dPart (dC (.int 1))) dNoPart)) (tName 3) dYes (dCall (m_spelled n) (dCons (dVar 3) dNil)) [3]))
    (dSeq (dIfS (dTest (dOp rEq (dOp rIx (dVar 0) (dC (.int 0))) (dC (.str "pair")))) (dRet (dOp rAdd (dOp rAdd (dOp rAdd (dOp rAdd (dC (.str "(")) (dOp rIx (dVar 1) (dC (.int 0)))) (dC (.str " & "))) (dOp rIx (dVar 1) (dC (.int 1)))) (dC (.str ")")))) dNext)
    (dSeq (dIfS (dTest (dOp rEq (dOp rIx (dVar 0) (dC (.int 0))) (dC (.str "box")))) (dSeq (dAsg 2 (dOrV (dCB rIsi (dCons (dOp rIx (dVar 0) (dC (.int 1))) (dCons (dC (.ty "str")) dNil))) (dOp rEq (dOp rIx (dOp rIx (dVar 0) (dC (.int 1))) (dC (.int 0))) (dC (.str "var")))))
    (dRet (dOp rAdd (dOp rAdd (dOp rAdd (dC (.str "[")) (dOp rIx (dVar 1) (dC (.int 1)))) (dC (.str "]"))) (dIf (dTest (dVar 2)) (dOp rIx (dVar 1) (dC (.int 0))) (dOp rAdd (dOp rAdd (dC (.str "<")) (dOp rIx (dVar 1) (dC (.int 0)))) (dC (.str ">"))))))) dNext)
    (dSeq (dIfS (dTest (dOp rEq (dOp rIx (dVar 0) (dC (.int 0))) (dC (.str "half")))) (dRet (dOp rAdd (dC (.str "half ")) (dOp rIx (dVar 1) (dC (.int 0))))) dNext)
    (dSeq (dIfS (dTest (dOp rEq (dOp rIx (dVar 0) (dC (.int 0))) (dC (.str "shut")))) (dRet (dOp rAdd (dOp rAdd (dOp rAdd (dC (.str "{")) (dOp rIx (dVar 1) (dC (.int 1)))) (dC (.str "}"))) (dOp rIx (dVar 1) (dC (.int 0))))) dNext)
    (dSeq (dIfS (dTest (dOp rEq (dOp rIx (dVar 0) (dC (.int 0))) (dC (.str "mark")))) (dRet (dOp rAdd (dOp rAdd (dOp rAdd (dOp rAdd (dC (.str "(")) (dOp rIx (dVar 1) (dC (.int 1)))) (dC (.str "!"))) (dOp rIx (dVar 1) (dC (.int 0)))) (dC (.str ")")))) dNext)
    (dRet (dOp rAdd (dOp rAdd (dC (.str "mix(")) (dOp rIx (dVar 1) (dC (.int 0)))) (dC (.str ")"))))))))))))
theorem has_spelled (T : Top w K mg) : ∀ n : Nat, Has P w K mg base (He.ga K) "spelled" (1 + 1 * n) (m_spelled n)
  | 0 => by
    obtain ⟨fd, D⟩ := T.d_spelled
    exact has_false (ps := ["term"]) D T.g_spelled (D.bindsN fun _ _ _ _ _ _ us hl => match us, hl with | [_], _ => rfl)
  | n + 1 => by
    obtain ⟨fd, D⟩ := T.d_spelled
    have h_spelled := has_spelled T n
    exact Has.mono (has_of (k := 1 + 1 * n) D T.g_spelled sc_spelled rfl rfl (D.bindsN fun _ _ _ _ _ _ us hl => match us, hl with | [_], _ => rfl)
    (fun cdv A outer s H E B O hr => by
    have tk : Takes (cxOf (L2.CX P w) P w K mg base ["term", "parts", "bare", "part"] "spelled" (defScope s_spelled) (He.fAd K ("spelled", none)) cdv A outer s H E) (fun cls d _ H => E cls d H) := takes_of rfl rfl rfl rfl
    have po : PassesOwn (model P w) (cxOf (L2.CX P w) P w K mg base ["term", "parts", "bare", "part"] "spelled" (defScope s_spelled) (He.fAd K ("spelled", none)) cdv A outer s H E).A (cxOf (L2.CX P w) P w K mg base ["term", "parts", "bare", "part"] "spelled" (defScope s_spelled) (He.fAd K ("spelled", none)) cdv A outer s H E).env (cxOf (L2.CX P w) P w K mg base ["term", "parts", "bare", "part"] "spelled" (defScope s_spelled) (He.fAd K ("spelled", none)) cdv A outer s H E).xe := po_of rfl
    exact (sCons (sIf (yVal (xCallB cIsi rfl T.n_isinstance (by decide +kernel) (aCons (xVar (pv 0)) (aCons (xTy rfl T.n_str (by decide +kernel)) aNil)))) (sOne (sRet (xVar (pv 0)))) sNil)
      (sCons (sIf (yCmpD (oEq (hu64 hr)) (xIx (hu65 hr) (xVar (pv 0)) xInt) (xGStr T.c_VAR (okS_by (by decide +kernel)))) (sOne (sRet (xOpD oAdd (xStr (okS_by (by decide +kernel))) (xIx (hu65 hr) (xVar (pv 0)) xInt)))) sNil)
      (sCons (sLcSet (i := 1) rfl sc_spelled.nd rfl rfl (sw_true rfl rfl rfl (by decide +kernel)) (blkOk_by (own := [("part", 3)]) (by kernel_rfl)) (iSeq (xSl (xVar (pv 0)) (oSome xInt) oNone)) (fun _ _ _ _ _ _ => (gName1 (pg_name (i := 3) sc_spelled.nd rfl (by first | exact Or.inl rfl | exact Or.inr rfl)) (by decide))) (fun _ _ _ _ _ _ => tYesD) (fun _ _ _ _ _ _ => (xCall h_spelled (hr.mono (by omega)) takes0 rfl (aCons (xVar (pv 3)) aNil))))
      (sCons (sIf (yCmpD (oEq (hu64 hr)) (xIx (hu65 hr) (xVar (pv 0)) xInt) (xGStr T.c_PAIR (okS_by (by decide +kernel)))) (sOne (sRet (xOpD oAdd (xOpD oAdd (xOpD oAdd (xOpD oAdd (xStr (okS_by (by decide +kernel))) (xIx (hu65 hr) (xVar (pv 1)) xInt)) (xGStr T.c_AND (okS_by (by decide +kernel)))) (xIx (hu65 hr) (xVar (pv 1)) xInt)) (xStr (okS_by (by decide +kernel)))))) sNil)
      (sCons (sIf (yCmpD (oEq (hu64 hr)) (xIx (hu65 hr) (xVar (pv 0)) xInt) (xGStr T.c_BOX (okS_by (by decide +kernel)))) (sCons (sSet (i := 2) sc_spelled.nd rfl (by first | exact Or.inl rfl | exact Or.inr rfl) (xOr (xCallB cIsi rfl T.n_isinstance (by decide +kernel) (aCons (xIx (hu65 hr) (xVar (pv 0)) xInt) (aCons (xTy rfl T.n_str (by decide +kernel)) aNil))) (xOne (xCmpD (oEq (hu64 hr)) (xIx (hu65 hr) (xIx (hu65 hr) (xVar (pv 0)) xInt) xInt) (xGStr T.c_VAR (okS_by (by decide +kernel)))))))
      (sOne (sRet (xOpD oAdd (xOpD oAdd (xOpD oAdd (xStr (okS_by (by decide +kernel))) (xIx (hu65 hr) (xVar (pv 1)) xInt)) (xStr (okS_by (by decide +kernel)))) (xIf (yVal (xVar (pv 2))) (xIx (hu65 hr) (xVar (pv 1)) xInt) (xOpD oAdd (xOpD oAdd (xStr (okS_by (by decide +kernel))) (xIx (hu65 hr) (xVar (pv 1)) xInt)) (xStr (okS_by (by decide +kernel))))))))) sNil)
      (sCons (sIf (yCmpD (oEq (hu64 hr)) (xIx (hu65 hr) (xVar (pv 0)) xInt) (xGStr T.c_HALF (okS_by (by decide +kernel)))) (sOne (sRet (xOpD oAdd (xStr (okS_by (by decide +kernel))) (xIx (hu65 hr) (xVar (pv 1)) xInt)))) sNil)
      (sCons (sIf (yCmpD (oEq (hu64 hr)) (xIx (hu65 hr) (xVar (pv 0)) xInt) (xGStr T.c_SHUT (okS_by (by decide +kernel)))) (sOne (sRet (xOpD oAdd (xOpD oAdd (xOpD oAdd (xStr (okS_by (by decide +kernel))) (xIx (hu65 hr) (xVar (pv 1)) xInt)) (xStr (okS_by (by decide +kernel)))) (xIx (hu65 hr) (xVar (pv 1)) xInt)))) sNil)
      (sCons (sIf (yCmpD (oEq (hu64 hr)) (xIx (hu65 hr) (xVar (pv 0)) xInt) (xGStr T.c_MARK (okS_by (by decide +kernel)))) (sOne (sRet (xOpD oAdd (xOpD oAdd (xOpD oAdd (xOpD oAdd (xStr (okS_by (by decide +kernel))) (xIx (hu65 hr) (xVar (pv 1)) xInt)) (xStr (okS_by (by decide +kernel)))) (xIx (hu65 hr) (xVar (pv 1)) xInt)) (xStr (okS_by (by decide +kernel)))))) sNil)
      (sOne (sRet (xOpD oAdd (xOpD oAdd (xStr (okS_by (by decide +kernel))) (xIx (hu65 hr) (xVar (pv 1)) xInt)) (xStr (okS_by (by decide +kernel)))))))))))))))) (by omega)
def m_worded : DFn := dFn 1 1
    (dSeq (dDrop (dCall m_check_term (dCons (dVar 0) dNil)))
    (dRet (dCall (m_spelled 14) (dCons (dVar 0) dNil))))
theorem has_worded (T : Top w K mg) : Has P w K mg base (He.ga K) "worded" 20 m_worded := by
  obtain ⟨fd, D⟩ := T.d_worded
  have h_check_term := has_check_term (P := P) (base := base) T
  have h_spelled := has_spelled (P := P) (base := base) T 14
  exact has_of (k := 19) D T.g_worded sc_worded rfl rfl (D.bindsN fun _ _ _ _ _ _ us hl => match us, hl with | [_], _ => rfl)
    (fun cdv A outer s H E B O hr => by
    have tk : Takes (cxOf (L2.CX P w) P w K mg base ["term"] "worded" (defScope s_worded) (He.fAd K ("worded", none)) cdv A outer s H E) (fun cls d _ H => E cls d H) := takes_of rfl rfl rfl rfl
    have po : PassesOwn (model P w) (cxOf (L2.CX P w) P w K mg base ["term"] "worded" (defScope s_worded) (He.fAd K ("worded", none)) cdv A outer s H E).A (cxOf (L2.CX P w) P w K mg base ["term"] "worded" (defScope s_worded) (He.fAd K ("worded", none)) cdv A outer s H E).env (cxOf (L2.CX P w) P w K mg base ["term"] "worded" (defScope s_worded) (He.fAd K ("worded", none)) cdv A outer s H E).xe := po_of rfl
    exact (sCons (sDrop (xCall h_check_term (hr.mono (by omega)) tk rfl (aCons (xVar (pv 0)) aNil)))
      (sOne (sRet (xCall h_spelled (hr.mono (by omega)) tk rfl (aCons (xVar (pv 0)) aNil))))))
def m_word_end : DFn := dFn 2 2
    (dSeq (dWhile (dAnd (dTest (dOp rLt (dVar 1) (dCB rLen (dCons (dVar 0) dNil)))) (dTest (dOp (rIn false) (dOp rIx (dVar 0) (dVar 1)) (dC (.str "abcdefghijklmnopqrstuvwxyz"))))) (dAug 1 (dC (.int 1))))
    (dRet (dVar 1)))
theorem has_word_end (T : Top w K mg) : Has P w K mg base (He.ga K) "word_end" 1 m_word_end := by
  obtain ⟨fd, D⟩ := T.d_word_end
  exact has_of (k := 0) D T.g_word_end sc_word_end rfl rfl (D.bindsN fun _ _ _ _ _ _ us hl => match us, hl with | [_, _], _ => rfl)
    (fun cdv A outer s H E B O hr => by
    have tk : Takes (cxOf (L2.CX P w) P w K mg base ["text", "at"] "word_end" (defScope s_word_end) (He.fAd K ("word_end", none)) cdv A outer s H E) (fun cls d _ H => E cls d H) := takes_of rfl rfl rfl rfl
    have po : PassesOwn (model P w) (cxOf (L2.CX P w) P w K mg base ["text", "at"] "word_end" (defScope s_word_end) (He.fAd K ("word_end", none)) cdv A outer s H E).A (cxOf (L2.CX P w) P w K mg base ["text", "at"] "word_end" (defScope s_word_end) (He.fAd K ("word_end", none)) cdv A outer s H E).env (cxOf (L2.CX P w) P w K mg base ["text", "at"] "word_end" (defScope s_word_end) (He.fAd K ("word_end", none)) cdv A outer s H E).xe := po_of rfl
    exact (sCons (sWhile po (yW (wAnd (yCmpD oLt (xVar (pv 1)) (xCallB cLen rfl T.n_len (by decide +kernel) (aCons (xVar (pv 0)) aNil))) (wAnd1 (yCmpD (oIn (hu65 hr)) (xIx (hu65 hr) (xVar (pv 0)) (xVar (pv 1))) (xGStr T.c_SMALL (okS_by (by decide +kernel))))))) (sOne (sAug (i := 1) sc_word_end.nd rfl (by first | exact Or.inl rfl | exact Or.inr rfl) xInt)))
      (sOne (sRet (xVar (pv 1))))))
def m_leaf_at : DFn := dFn 4 2
    (dSeq (dAsg 2 (dOp rAdd (dVar 1) (dCB rInt (dCons (dOp rEq (dSl (dVar 0) (dPart (dVar 1)) (dPart (dOp rAdd (dVar 1) (dC (.int 1))))) (dC (.str "?"))) dNil))))
    (dSeq (dAsg 3 (dCall m_word_end (dCons (dVar 0) (dCons (dVar 2) dNil))))
    (dSeq (dIfS (dNot (dTest (dCall m_is_name (dCons (dSl (dVar 0) (dPart (dVar 2)) (dPart (dVar 3))) dNil)))) (dRet (dC .non)) dNext)
    (dRet (dTup (dCons (dIf (dTest (dOp rEq (dVar 2) (dVar 1))) (dSl (dVar 0) (dPart (dVar 1)) (dPart (dVar 3))) (dTup (dCons (dC (.str "var")) (dCons (dSl (dVar 0) (dPart (dVar 2)) (dPart (dVar 3))) dNil)))) (dCons (dVar 3) dNil)))))))
theorem has_leaf_at (T : Top w K mg) : Has P w K mg base (He.ga K) "leaf_at" 2 m_leaf_at := by
  obtain ⟨fd, D⟩ := T.d_leaf_at
  have h_word_end := has_word_end (P := P) (base := base) T
  have h_is_name := has_is_name (P := P) (base := base) T
  exact has_of (k := 1) D T.g_leaf_at sc_leaf_at rfl rfl (D.bindsN fun _ _ _ _ _ _ us hl => match us, hl with | [_, _], _ => rfl)
    (fun cdv A outer s H E B O hr => by
    have tk : Takes (cxOf (L2.CX P w) P w K mg base ["text", "at", "first", "end"] "leaf_at" (defScope s_leaf_at) (He.fAd K ("leaf_at", none)) cdv A outer s H E) (fun cls d _ H => E cls d H) := takes_of rfl rfl rfl rfl
    have po : PassesOwn (model P w) (cxOf (L2.CX P w) P w K mg base ["text", "at", "first", "end"] "leaf_at" (defScope s_leaf_at) (He.fAd K ("leaf_at", none)) cdv A outer s H E).A (cxOf (L2.CX P w) P w K mg base ["text", "at", "first", "end"] "leaf_at" (defScope s_leaf_at) (He.fAd K ("leaf_at", none)) cdv A outer s H E).env (cxOf (L2.CX P w) P w K mg base ["text", "at", "first", "end"] "leaf_at" (defScope s_leaf_at) (He.fAd K ("leaf_at", none)) cdv A outer s H E).xe := po_of rfl
    exact (sCons (sSet (i := 2) sc_leaf_at.nd rfl (by first | exact Or.inl rfl | exact Or.inr rfl) (xOpD oAdd (xVar (pv 1)) (xCallTy cInt rfl T.n_int (by decide +kernel) (aCons (xCmpD (oEq (hu64 hr)) (xSl (xVar (pv 0)) (oSome (xVar (pv 1))) (oSome (xOpD oAdd (xVar (pv 1)) xInt))) (xStr (okS_by (by decide +kernel)))) aNil))))
      (sCons (sSet (i := 3) sc_leaf_at.nd rfl (by first | exact Or.inl rfl | exact Or.inr rfl) (xCall h_word_end (hr.mono (by omega)) tk rfl (aCons (xVar (pv 0)) (aCons (xVar (pv 2)) aNil))))
      (sCons (sIf (yNot (yVal (xCall h_is_name (hr.mono (by omega)) tk rfl (aCons (xSl (xVar (pv 0)) (oSome (xVar (pv 2))) (oSome (xVar (pv 3)))) aNil)))) (sOne (sRet xNon)) sNil)
      (sOne (sRet (xTup (aCons (xIf (yCmpD (oEq (hu64 hr)) (xVar (pv 2)) (xVar (pv 1))) (xSl (xVar (pv 0)) (oSome (xVar (pv 1))) (oSome (xVar (pv 3)))) (xTup (aCons (xGStr T.c_VAR (okS_by (by decide +kernel))) (aCons (xSl (xVar (pv 0)) (oSome (xVar (pv 2))) (oSome (xVar (pv 3)))) aNil)))) (aCons (xVar (pv 3)) aNil)))))))))
def m_behind : DFn := dFn 3 3
    (dSeq (dIfS (dOr (dTest (dOp rIs (dVar 1) (dC .non))) (dNot (dTest (dStarts (dVar 0) (dCons (dVar 2) (dCons (dOp rIx (dVar 1) (dC (.int 1))) dNil)))))) (dRet (dC .non)) dNext)
    (dRet (dTup (dCons (dOp rIx (dVar 1) (dC (.int 0))) (dCons (dOp rAdd (dOp rIx (dVar 1) (dC (.int 1))) (dCB rLen (dCons (dVar 2) dNil))) dNil)))))
theorem has_behind (T : Top w K mg) : Has P w K mg base (He.ga K) "behind" 1 m_behind := by
  obtain ⟨fd, D⟩ := T.d_behind
  exact has_of (k := 0) D T.g_behind sc_behind rfl rfl (D.bindsN fun _ _ _ _ _ _ us hl => match us, hl with | [_, _, _], _ => rfl)
    (fun cdv A outer s H E B O hr => by
    have tk : Takes (cxOf (L2.CX P w) P w K mg base ["text", "found", "mark"] "behind" (defScope s_behind) (He.fAd K ("behind", none)) cdv A outer s H E) (fun cls d _ H => E cls d H) := takes_of rfl rfl rfl rfl
    have po : PassesOwn (model P w) (cxOf (L2.CX P w) P w K mg base ["text", "found", "mark"] "behind" (defScope s_behind) (He.fAd K ("behind", none)) cdv A outer s H E).A (cxOf (L2.CX P w) P w K mg base ["text", "found", "mark"] "behind" (defScope s_behind) (He.fAd K ("behind", none)) cdv A outer s H E).env (cxOf (L2.CX P w) P w K mg base ["text", "found", "mark"] "behind" (defScope s_behind) (He.fAd K ("behind", none)) cdv A outer s H E).xe := po_of rfl
    exact (sCons (sIf (yW (wOr (yCmpD oIs (xVar (pv 1)) xNon) (wOr1 (yNot (yVal (xStarts (xVar (pv 0)) (aCons (xVar (pv 2)) (aCons (xIx (hu65 hr) (xVar (pv 1)) xInt) aNil)))))))) (sOne (sRet xNon)) sNil)
      (sOne (sRet (xTup (aCons (xIx (hu65 hr) (xVar (pv 1)) xInt) (aCons (xOpD oAdd (xIx (hu65 hr) (xVar (pv 1)) xInt) (xCallB cLen rfl T.n_len (by decide +kernel) (aCons (xVar (pv 2)) aNil))) aNil)))))))
def m_round_at (tm : DFn) : DFn := dFn 5 3
    (dSeq (dAsg 3 (dCall tm (dCons (dVar 0) (dCons (dOp rAdd (dVar 1) (dC (.int 1))) (dCons (dVar 2) dNil)))))
    (dSeq (dIfS (dTest (dOp rIs (dVar 3) (dC .non))) (dRet (dC .non)) dNext)
    (dSeq (dIfS (dTest (dStarts (dVar 0) (dCons (dC (.str " & ")) (dCons (dOp rIx (dVar 3) (dC (.int 1))) dNil)))) (dSeq (dAsg 4 (dCall m_behind (dCons (dVar 0) (dCons (dCall tm (dCons (dVar 0) (dCons (dOp rAdd (dOp rIx (dVar 3) (dC (.int 1))) (dCB rLen (dCons (dC (.str " & ")) dNil))) (dCons (dVar 2) dNil)))) (dCons (dC (.str ")")) dNil)))))
    (dRet (dIf (dTest (dOp rIs (dVar 4) (dC .non))) (dC .non) (dTup (dCons (dTup (dCons (dC (.str "pair")) (dCons (dOp rIx (dVar 3) (dC (.int 0))) (dCons (dOp rIx (dVar 4) (dC (.int 0))) dNil)))) (dCons (dOp rIx (dVar 4) (dC (.int 1))) dNil)))))) dNext)
    (dSeq (dIfS (dNot (dTest (dStarts (dVar 0) (dCons (dC (.str "!")) (dCons (dOp rIx (dVar 3) (dC (.int 1))) dNil))))) (dRet (dC .non)) dNext)
    (dSeq (dAsg 4 (dCall m_behind (dCons (dVar 0) (dCons (dCall m_leaf_at (dCons (dVar 0) (dCons (dOp rAdd (dOp rIx (dVar 3) (dC (.int 1))) (dC (.int 1))) dNil))) (dCons (dC (.str ")")) dNil)))))
    (dRet (dIf (dTest (dOp rIs (dVar 4) (dC .non))) (dC .non) (dTup (dCons (dTup (dCons (dC (.str "mark")) (dCons (dOp rIx (dVar 4) (dC (.int 0))) (dCons (dOp rIx (dVar 3) (dC (.int 0))) dNil)))) (dCons (dOp rIx (dVar 4) (dC (.int 1))) dNil))))))))))
theorem has_round_at (T : Top w K mg) (tm : DFn) (k : Nat) (hk : 2 ≤ k) (h_term_at : Has P w K mg base (He.ga K) "term_at" k tm) : Has P w K mg base (He.ga K) "round_at" (k + 1) (m_round_at tm) := by
  obtain ⟨fd, D⟩ := T.d_round_at
  have h_behind := has_behind (P := P) (base := base) T
  have h_leaf_at := has_leaf_at (P := P) (base := base) T
  exact has_of (k := k) D T.g_round_at sc_round_at rfl rfl (D.bindsN fun _ _ _ _ _ _ us hl => match us, hl with | [_, _, _], _ => rfl)
    (fun cdv A outer s H E B O hr => by
    have tk : Takes (cxOf (L2.CX P w) P w K mg base ["text", "at", "room", "first", "second"] "round_at" (defScope s_round_at) (He.fAd K ("round_at", none)) cdv A outer s H E) (fun cls d _ H => E cls d H) := takes_of rfl rfl rfl rfl
    have po : PassesOwn (model P w) (cxOf (L2.CX P w) P w K mg base ["text", "at", "room", "first", "second"] "round_at" (defScope s_round_at) (He.fAd K ("round_at", none)) cdv A outer s H E).A (cxOf (L2.CX P w) P w K mg base ["text", "at", "room", "first", "second"] "round_at" (defScope s_round_at) (He.fAd K ("round_at", none)) cdv A outer s H E).env (cxOf (L2.CX P w) P w K mg base ["text", "at", "room", "first", "second"] "round_at" (defScope s_round_at) (He.fAd K ("round_at", none)) cdv A outer s H E).xe := po_of rfl
    exact (sCons (sSet (i := 3) sc_round_at.nd rfl (by first | exact Or.inl rfl | exact Or.inr rfl) (xCall h_term_at (hr.mono (by omega)) tk rfl (aCons (xVar (pv 0)) (aCons (xOpD oAdd (xVar (pv 1)) xInt) (aCons (xVar (pv 2)) aNil)))))
      (sCons (sIf (yCmpD oIs (xVar (pv 3)) xNon) (sOne (sRet xNon)) sNil)
      (sCons (sIf (yVal (xStarts (xVar (pv 0)) (aCons (xGStr T.c_AND (okS_by (by decide +kernel))) (aCons (xIx (hu65 hr) (xVar (pv 3)) xInt) aNil)))) (sCons (sSet (i := 4) sc_round_at.nd rfl (by first | exact Or.inl rfl | exact Or.inr rfl) (xCall h_behind (hr.mono (by omega)) tk rfl (aCons (xVar (pv 0)) (aCons (xCall h_term_at (hr.mono (by omega)) tk rfl (aCons (xVar (pv 0)) (aCons (xOpD oAdd (xIx (hu65 hr) (xVar (pv 3)) xInt) (xCallB cLen rfl T.n_len (by decide +kernel) (aCons (xGStr T.c_AND (okS_by (by decide +kernel))) aNil))) (aCons (xVar (pv 2)) aNil)))) (aCons (xStr (okS_by (by decide +kernel))) aNil)))))
      (sOne (sRet (xIf (yCmpD oIs (xVar (pv 4)) xNon) xNon (xTup (aCons (xTup (aCons (xGStr T.c_PAIR (okS_by (by decide +kernel))) (aCons (xIx (hu65 hr) (xVar (pv 3)) xInt) (aCons (xIx (hu65 hr) (xVar (pv 4)) xInt) aNil)))) (aCons (xIx (hu65 hr) (xVar (pv 4)) xInt) aNil))))))) sNil)
      (sCons (sIf (yNot (yVal (xStarts (xVar (pv 0)) (aCons (xStr (okS_by (by decide +kernel))) (aCons (xIx (hu65 hr) (xVar (pv 3)) xInt) aNil))))) (sOne (sRet xNon)) sNil)
      (sCons (sSet (i := 4) sc_round_at.nd rfl (by first | exact Or.inl rfl | exact Or.inr rfl) (xCall h_behind (hr.mono (by omega)) tk rfl (aCons (xVar (pv 0)) (aCons (xCall h_leaf_at (hr.mono (by omega)) tk rfl (aCons (xVar (pv 0)) (aCons (xOpD oAdd (xIx (hu65 hr) (xVar (pv 3)) xInt) xInt) aNil))) (aCons (xStr (okS_by (by decide +kernel))) aNil)))))
      (sOne (sRet (xIf (yCmpD oIs (xVar (pv 4)) xNon) xNon (xTup (aCons (xTup (aCons (xGStr T.c_MARK (okS_by (by decide +kernel))) (aCons (xIx (hu65 hr) (xVar (pv 4)) xInt) (aCons (xIx (hu65 hr) (xVar (pv 3)) xInt) aNil)))) (aCons (xIx (hu65 hr) (xVar (pv 4)) xInt) aNil))))))))))))
def m_box_at (tm : DFn) : DFn := dFn 5 3
    (dSeq (dAsg 3 (dCall m_behind (dCons (dVar 0) (dCons (dCall tm (dCons (dVar 0) (dCons (dOp rAdd (dVar 1) (dC (.int 1))) (dCons (dVar 2) dNil)))) (dCons (dC (.str "]")) dNil)))))
    (dSeq (dIfS (dTest (dOp rIs (dVar 3) (dC .non))) (dRet (dC .non)) dNext)
    (dSeq (dIfS (dTest (dStarts (dVar 0) (dCons (dC (.str "<")) (dCons (dOp rIx (dVar 3) (dC (.int 1))) dNil)))) (dAsg 4 (dCall m_behind (dCons (dVar 0) (dCons (dCall tm (dCons (dVar 0) (dCons (dOp rAdd (dOp rIx (dVar 3) (dC (.int 1))) (dC (.int 1))) (dCons (dVar 2) dNil)))) (dCons (dC (.str ">")) dNil))))) (dAsg 4 (dCall m_leaf_at (dCons (dVar 0) (dCons (dOp rIx (dVar 3) (dC (.int 1))) dNil)))))
    (dRet (dIf (dTest (dOp rIs (dVar 4) (dC .non))) (dC .non) (dTup (dCons (dTup (dCons (dC (.str "box")) (dCons (dOp rIx (dVar 4) (dC (.int 0))) (dCons (dOp rIx (dVar 3) (dC (.int 0))) dNil)))) (dCons (dOp rIx (dVar 4) (dC (.int 1))) dNil))))))))
theorem has_box_at (T : Top w K mg) (tm : DFn) (k : Nat) (hk : 2 ≤ k) (h_term_at : Has P w K mg base (He.ga K) "term_at" k tm) : Has P w K mg base (He.ga K) "box_at" (k + 1) (m_box_at tm) := by
  obtain ⟨fd, D⟩ := T.d_box_at
  have h_behind := has_behind (P := P) (base := base) T
  have h_leaf_at := has_leaf_at (P := P) (base := base) T
  exact has_of (k := k) D T.g_box_at sc_box_at rfl rfl (D.bindsN fun _ _ _ _ _ _ us hl => match us, hl with | [_, _, _], _ => rfl)
    (fun cdv A outer s H E B O hr => by
    have tk : Takes (cxOf (L2.CX P w) P w K mg base ["text", "at", "room", "first", "second"] "box_at" (defScope s_box_at) (He.fAd K ("box_at", none)) cdv A outer s H E) (fun cls d _ H => E cls d H) := takes_of rfl rfl rfl rfl
    have po : PassesOwn (model P w) (cxOf (L2.CX P w) P w K mg base ["text", "at", "room", "first", "second"] "box_at" (defScope s_box_at) (He.fAd K ("box_at", none)) cdv A outer s H E).A (cxOf (L2.CX P w) P w K mg base ["text", "at", "room", "first", "second"] "box_at" (defScope s_box_at) (He.fAd K ("box_at", none)) cdv A outer s H E).env (cxOf (L2.CX P w) P w K mg base ["text", "at", "room", "first", "second"] "box_at" (defScope s_box_at) (He.fAd K ("box_at", none)) cdv A outer s H E).xe := po_of rfl
    exact (sCons (sSet (i := 3) sc_box_at.nd rfl (by first | exact Or.inl rfl | exact Or.inr rfl) (xCall h_behind (hr.mono (by omega)) tk rfl (aCons (xVar (pv 0)) (aCons (xCall h_term_at (hr.mono (by omega)) tk rfl (aCons (xVar (pv 0)) (aCons (xOpD oAdd (xVar (pv 1)) xInt) (aCons (xVar (pv 2)) aNil)))) (aCons (xStr (okS_by (by decide +kernel))) aNil)))))
      (sCons (sIf (yCmpD oIs (xVar (pv 3)) xNon) (sOne (sRet xNon)) sNil)
      (sCons (sIf (yVal (xStarts (xVar (pv 0)) (aCons (xStr (okS_by (by decide +kernel))) (aCons (xIx (hu65 hr) (xVar (pv 3)) xInt) aNil)))) (sOne (sSet (i := 4) sc_box_at.nd rfl (by first | exact Or.inl rfl | exact Or.inr rfl) (xCall h_behind (hr.mono (by omega)) tk rfl (aCons (xVar (pv 0)) (aCons (xCall h_term_at (hr.mono (by omega)) tk rfl (aCons (xVar (pv 0)) (aCons (xOpD oAdd (xIx (hu65 hr) (xVar (pv 3)) xInt) xInt) (aCons (xVar (pv 2)) aNil)))) (aCons (xStr (okS_by (by decide +kernel))) aNil)))))) (sOne (sSet (i := 4) sc_box_at.nd rfl (by first | exact Or.inl rfl | exact Or.inr rfl) (xCall h_leaf_at (hr.mono (by omega)) tk rfl (aCons (xVar (pv 0)) (aCons (xIx (hu65 hr) (xVar (pv 3)) xInt) aNil))))))
      (sOne (sRet (xIf (yCmpD oIs (xVar (pv 4)) xNon) xNon (xTup (aCons (xTup (aCons (xGStr T.c_BOX (okS_by (by decide +kernel))) (aCons (xIx (hu65 hr) (xVar (pv 4)) xInt) (aCons (xIx (hu65 hr) (xVar (pv 3)) xInt) aNil)))) (aCons (xIx (hu65 hr) (xVar (pv 4)) xInt) aNil))))))))))
def m_shut_at (tm : DFn) : DFn := dFn 5 3
    (dSeq (dAsg 3 (dCall m_behind (dCons (dVar 0) (dCons (dCall tm (dCons (dVar 0) (dCons (dOp rAdd (dVar 1) (dC (.int 1))) (dCons (dVar 2) dNil)))) (dCons (dC (.str "}")) dNil)))))
    (dSeq (dIfS (dTest (dOp rIs (dVar 3) (dC .non))) (dRet (dC .non)) dNext)
    (dSeq (dAsg 4 (dCall m_leaf_at (dCons (dVar 0) (dCons (dOp rIx (dVar 3) (dC (.int 1))) dNil))))
    (dRet (dIf (dTest (dOp rIs (dVar 4) (dC .non))) (dC .non) (dTup (dCons (dTup (dCons (dC (.str "shut")) (dCons (dOp rIx (dVar 4) (dC (.int 0))) (dCons (dOp rIx (dVar 3) (dC (.int 0))) dNil)))) (dCons (dOp rIx (dVar 4) (dC (.int 1))) dNil))))))))
theorem has_shut_at (T : Top w K mg) (tm : DFn) (k : Nat) (hk : 2 ≤ k) (h_term_at : Has P w K mg base (He.ga K) "term_at" k tm) : Has P w K mg base (He.ga K) "shut_at" (k + 1) (m_shut_at tm) := by
  obtain ⟨fd, D⟩ := T.d_shut_at
  have h_behind := has_behind (P := P) (base := base) T
  have h_leaf_at := has_leaf_at (P := P) (base := base) T
  exact has_of (k := k) D T.g_shut_at sc_shut_at rfl rfl (D.bindsN fun _ _ _ _ _ _ us hl => match us, hl with | [_, _, _], _ => rfl)
    (fun cdv A outer s H E B O hr => by
    have tk : Takes (cxOf (L2.CX P w) P w K mg base ["text", "at", "room", "first", "second"] "shut_at" (defScope s_shut_at) (He.fAd K ("shut_at", none)) cdv A outer s H E) (fun cls d _ H => E cls d H) := takes_of rfl rfl rfl rfl
    have po : PassesOwn (model P w) (cxOf (L2.CX P w) P w K mg base ["text", "at", "room", "first", "second"] "shut_at" (defScope s_shut_at) (He.fAd K ("shut_at", none)) cdv A outer s H E).A (cxOf (L2.CX P w) P w K mg base ["text", "at", "room", "first", "second"] "shut_at" (defScope s_shut_at) (He.fAd K ("shut_at", none)) cdv A outer s H E).env (cxOf (L2.CX P w) P w K mg base ["text", "at", "room", "first", "second"] "shut_at" (defScope s_shut_at) (He.fAd K ("shut_at", none)) cdv A outer s H E).xe := po_of rfl
    exact (sCons (sSet (i := 3) sc_shut_at.nd rfl (by first | exact Or.inl rfl | exact Or.inr rfl) (xCall h_behind (hr.mono (by omega)) tk rfl (aCons (xVar (pv 0)) (aCons (xCall h_term_at (hr.mono (by omega)) tk rfl (aCons (xVar (pv 0)) (aCons (xOpD oAdd (xVar (pv 1)) xInt) (aCons (xVar (pv 2)) aNil)))) (aCons (xStr (okS_by (by decide +kernel))) aNil)))))
      (sCons (sIf (yCmpD oIs (xVar (pv 3)) xNon) (sOne (sRet xNon)) sNil)
      (sCons (sSet (i := 4) sc_shut_at.nd rfl (by first | exact Or.inl rfl | exact Or.inr rfl) (xCall h_leaf_at (hr.mono (by omega)) tk rfl (aCons (xVar (pv 0)) (aCons (xIx (hu65 hr) (xVar (pv 3)) xInt) aNil))))
      (sOne (sRet (xIf (yCmpD oIs (xVar (pv 4)) xNon) xNon (xTup (aCons (xTup (aCons (xGStr T.c_SHUT (okS_by (by decide +kernel))) (aCons (xIx (hu65 hr) (xVar (pv 4)) xInt) (aCons (xIx (hu65 hr) (xVar (pv 3)) xInt) aNil)))) (aCons (xIx (hu65 hr) (xVar (pv 4)) xInt) aNil))))))))))
def m_word_at (tm : DFn) : DFn := dFn 5 3
    (dSeq (dAsg 3 (dCall m_word_end (dCons (dVar 0) (dCons (dVar 1) dNil))))
    (dSeq (dIfS (dAnd (dTest (dOp rEq (dSl (dVar 0) (dPart (dVar 1)) (dPart (dVar 3))) (dC (.str "mix")))) (dTest (dStarts (dVar 0) (dCons (dC (.str "(")) (dCons (dVar 3) dNil))))) (dSeq (dAsg 4 (dCall m_behind (dCons (dVar 0) (dCons (dCall tm (dCons (dVar 0) (dCons (dOp rAdd (dVar 3) (dC (.int 1))) (dCons (dVar 2) dNil)))) (dCons (dC (.str ")")) dNil)))))
    (dRet (dIf (dTest (dOp rIs (dVar 4) (dC .non))) (dC .non) (dTup (dCons (dTup (dCons (dC (.str "mix")) (dCons (dOp rIx (dVar 4) (dC (.int 0))) dNil))) (dCons (dOp rIx (dVar 4) (dC (.int 1))) dNil)))))) dNext)
    (dSeq (dIfS (dAnd (dTest (dOp rEq (dSl (dVar 0) (dPart (dVar 1)) (dPart (dVar 3))) (dC (.str "half")))) (dAnd (dTest (dStarts (dVar 0) (dCons (dC (.str " ")) (dCons (dVar 3) dNil)))) (dNot (dTest (dStarts (dVar 0) (dCons (dC (.str " & ")) (dCons (dVar 3) dNil))))))) (dSeq (dAsg 4 (dCall m_leaf_at (dCons (dVar 0) (dCons (dOp rAdd (dVar 3) (dC (.int 1))) dNil))))
    (dRet (dIf (dTest (dOp rIs (dVar 4) (dC .non))) (dC .non) (dTup (dCons (dTup (dCons (dC (.str "half")) (dCons (dOp rIx (dVar 4) (dC (.int 0))) dNil))) (dCons (dOp rIx (dVar 4) (dC (.int 1))) dNil)))))) dNext)
    (dRet (dCall m_leaf_at (dCons (dVar 0) (dCons (dVar 1) dNil)))))))
theorem has_word_at (T : Top w K mg) (tm : DFn) (k : Nat) (hk : 2 ≤ k) (h_term_at : Has P w K mg base (He.ga K) "term_at" k tm) : Has P w K mg base (He.ga K) "word_at" (k + 1) (m_word_at tm) := by
  obtain ⟨fd, D⟩ := T.d_word_at
  have h_word_end := has_word_end (P := P) (base := base) T
  have h_behind := has_behind (P := P) (base := base) T
  have h_leaf_at := has_leaf_at (P := P) (base := base) T
  exact has_of (k := k) D T.g_word_at sc_word_at rfl rfl (D.bindsN fun _ _ _ _ _ _ us hl => match us, hl with | [_, _, _], _ => rfl)
    (fun cdv A outer s H E B O hr => by
    have tk : Takes (cxOf (L2.CX P w) P w K mg base ["text", "at", "room", "end", "found"] "word_at" (defScope s_word_at) (He.fAd K ("word_at", none)) cdv A outer s H E) (fun cls d _ H => E cls d H) := takes_of rfl rfl rfl rfl
    have po : PassesOwn (model P w) (cxOf (L2.CX P w) P w K mg base ["text", "at", "room", "end", "found"] "word_at" (defScope s_word_at) (He.fAd K ("word_at", none)) cdv A outer s H E).A (cxOf (L2.CX P w) P w K mg base ["text", "at", "room", "end", "found"] "word_at" (defScope s_word_at) (He.fAd K ("word_at", none)) cdv A outer s H E).env (cxOf (L2.CX P w) P w K mg base ["text", "at", "room", "end", "found"] "word_at" (defScope s_word_at) (He.fAd K ("word_at", none)) cdv A outer s H E).xe := po_of rfl
    exact (sCons (sSet (i := 3) sc_word_at.nd rfl (by first | exact Or.inl rfl | exact Or.inr rfl) (xCall h_word_end (hr.mono (by omega)) tk rfl (aCons (xVar (pv 0)) (aCons (xVar (pv 1)) aNil))))
      (sCons (sIf (yW (wAnd (yCmpD (oEq (hu64 hr)) (xSl (xVar (pv 0)) (oSome (xVar (pv 1))) (oSome (xVar (pv 3)))) (xGStr T.c_MIX (okS_by (by decide +kernel)))) (wAnd1 (yVal (xStarts (xVar (pv 0)) (aCons (xStr (okS_by (by decide +kernel))) (aCons (xVar (pv 3)) aNil))))))) (sCons (sSet (i := 4) sc_word_at.nd rfl (by first | exact Or.inl rfl | exact Or.inr rfl) (xCall h_behind (hr.mono (by omega)) tk rfl (aCons (xVar (pv 0)) (aCons (xCall h_term_at (hr.mono (by omega)) tk rfl (aCons (xVar (pv 0)) (aCons (xOpD oAdd (xVar (pv 3)) xInt) (aCons (xVar (pv 2)) aNil)))) (aCons (xStr (okS_by (by decide +kernel))) aNil)))))
      (sOne (sRet (xIf (yCmpD oIs (xVar (pv 4)) xNon) xNon (xTup (aCons (xTup (aCons (xGStr T.c_MIX (okS_by (by decide +kernel))) (aCons (xIx (hu65 hr) (xVar (pv 4)) xInt) aNil))) (aCons (xIx (hu65 hr) (xVar (pv 4)) xInt) aNil))))))) sNil)
      (sCons (sIf (yW (wAnd (yCmpD (oEq (hu64 hr)) (xSl (xVar (pv 0)) (oSome (xVar (pv 1))) (oSome (xVar (pv 3)))) (xGStr T.c_HALF (okS_by (by decide +kernel)))) (wAnd (yVal (xStarts (xVar (pv 0)) (aCons (xStr (okS_by (by decide +kernel))) (aCons (xVar (pv 3)) aNil)))) (wAnd1 (yNot (yVal (xStarts (xVar (pv 0)) (aCons (xGStr T.c_AND (okS_by (by decide +kernel))) (aCons (xVar (pv 3)) aNil))))))))) (sCons (sSet (i := 4) sc_word_at.nd rfl (by first | exact Or.inl rfl | exact Or.inr rfl) (xCall h_leaf_at (hr.mono (by omega)) tk rfl (aCons (xVar (pv 0)) (aCons (xOpD oAdd (xVar (pv 3)) xInt) aNil))))
      (sOne (sRet (xIf (yCmpD oIs (xVar (pv 4)) xNon) xNon (xTup (aCons (xTup (aCons (xGStr T.c_HALF (okS_by (by decide +kernel))) (aCons (xIx (hu65 hr) (xVar (pv 4)) xInt) aNil))) (aCons (xIx (hu65 hr) (xVar (pv 4)) xInt) aNil))))))) sNil)
      (sOne (sRet (xCall h_leaf_at (hr.mono (by omega)) tk rfl (aCons (xVar (pv 0)) (aCons (xVar (pv 1)) aNil)))))))))
def m_term_at : Nat → DFn
  | 0 => fun _ _ _ => False
  | n + 1 => dFn 3 3
    (dSeq (dIfS (dTest (dOp rEq (dVar 2) (dC (.int 0)))) (dRet (dC .non)) dNext)
    (dSeq (dIfS (dTest (dStarts (dVar 0) (dCons (dC (.str "(")) (dCons (dVar 1) dNil)))) (dRet (dCall (m_round_at (m_term_at n)) (dCons (dVar 0) (dCons (dVar 1) (dCons (dOp rSub (dVar 2) (dC (.int 1))) dNil))))) dNext)
    (dSeq (dIfS (dTest (dStarts (dVar 0) (dCons (dC (.str "[")) (dCons (dVar 1) dNil)))) (dRet (dCall (m_box_at (m_term_at n)) (dCons (dVar 0) (dCons (dVar 1) (dCons (dOp rSub (dVar 2) (dC (.int 1))) dNil))))) dNext)
    (dSeq (dIfS (dTest (dStarts (dVar 0) (dCons (dC (.str "{")) (dCons (dVar 1) dNil)))) (dRet (dCall (m_shut_at (m_term_at n)) (dCons (dVar 0) (dCons (dVar 1) (dCons (dOp rSub (dVar 2) (dC (.int 1))) dNil))))) dNext)
    (dRet (dCall (m_word_at (m_term_at n)) (dCons (dVar 0) (dCons (dVar 1) (dCons (dOp rSub (dVar 2) (dC (.int 1))) dNil)))))))))
theorem has_term_at (T : Top w K mg) : ∀ n : Nat, Has P w K mg base (He.ga K) "term_at" (2 + 2 * n) (m_term_at n)
  | 0 => by
    obtain ⟨fd, D⟩ := T.d_term_at
    exact has_false (ps := ["text", "at", "room"]) D T.g_term_at (D.bindsN fun _ _ _ _ _ _ us hl => match us, hl with | [_, _, _], _ => rfl)
  | n + 1 => by
    obtain ⟨fd, D⟩ := T.d_term_at
    have h_round_at := has_round_at (P := P) (base := base) T (m_term_at n) _ (by omega) (has_term_at T n)
    have h_box_at := has_box_at (P := P) (base := base) T (m_term_at n) _ (by omega) (has_term_at T n)
    have h_shut_at := has_shut_at (P := P) (base := base) T (m_term_at n) _ (by omega) (has_term_at T n)
    have h_word_at := has_word_at (P := P) (base := base) T (m_term_at n) _ (by omega) (has_term_at T n)
    exact Has.mono (has_of (k := 2 + 2 * n + 1) D T.g_term_at sc_term_at rfl rfl (D.bindsN fun _ _ _ _ _ _ us hl => match us, hl with | [_, _, _], _ => rfl)
    (fun cdv A outer s H E B O hr => by
    have tk : Takes (cxOf (L2.CX P w) P w K mg base ["text", "at", "room"] "term_at" (defScope s_term_at) (He.fAd K ("term_at", none)) cdv A outer s H E) (fun cls d _ H => E cls d H) := takes_of rfl rfl rfl rfl
    have po : PassesOwn (model P w) (cxOf (L2.CX P w) P w K mg base ["text", "at", "room"] "term_at" (defScope s_term_at) (He.fAd K ("term_at", none)) cdv A outer s H E).A (cxOf (L2.CX P w) P w K mg base ["text", "at", "room"] "term_at" (defScope s_term_at) (He.fAd K ("term_at", none)) cdv A outer s H E).env (cxOf (L2.CX P w) P w K mg base ["text", "at", "room"] "term_at" (defScope s_term_at) (He.fAd K ("term_at", none)) cdv A outer s H E).xe := po_of rfl
    exact (sCons (sIf (yCmpD (oEq (hu64 hr)) (xVar (pv 2)) xInt) (sOne (sRet xNon)) sNil)
      (sCons (sIf (yVal (xStarts (xVar (pv 0)) (aCons (xStr (okS_by (by decide +kernel))) (aCons (xVar (pv 1)) aNil)))) (sOne (sRet (xCall h_round_at (hr.mono (by omega)) tk rfl (aCons (xVar (pv 0)) (aCons (xVar (pv 1)) (aCons (xOpD oSub (xVar (pv 2)) xInt) aNil)))))) sNil)
      (sCons (sIf (yVal (xStarts (xVar (pv 0)) (aCons (xStr (okS_by (by decide +kernel))) (aCons (xVar (pv 1)) aNil)))) (sOne (sRet (xCall h_box_at (hr.mono (by omega)) tk rfl (aCons (xVar (pv 0)) (aCons (xVar (pv 1)) (aCons (xOpD oSub (xVar (pv 2)) xInt) aNil)))))) sNil)
      (sCons (sIf (yVal (xStarts (xVar (pv 0)) (aCons (xStr (okS_by (by decide +kernel))) (aCons (xVar (pv 1)) aNil)))) (sOne (sRet (xCall h_shut_at (hr.mono (by omega)) tk rfl (aCons (xVar (pv 0)) (aCons (xVar (pv 1)) (aCons (xOpD oSub (xVar (pv 2)) xInt) aNil)))))) sNil)
      (sOne (sRet (xCall h_word_at (hr.mono (by omega)) tk rfl (aCons (xVar (pv 0)) (aCons (xVar (pv 1)) (aCons (xOpD oSub (xVar (pv 2)) xInt) aNil)))))))))))) (by omega)
def m_read_any : DFn := dFn 3 2
    (dSeq (dAsg 2 (dCall (m_term_at 13) (dCons (dVar 0) (dCons (dC (.int 0)) (dCons (dC (.int 12)) dNil)))))
    (dSeq (dIfS (dOr (dTest (dOp rIs (dVar 2) (dC .non))) (dOr (dNot (dTest (dCall m_has_form (dCons (dOp rIx (dVar 2) (dC (.int 0))) (dCons (dVar 1) dNil))))) (dTest (dOp rNe (dCall (m_spelled 14) (dCons (dOp rIx (dVar 2) (dC (.int 0))) dNil)) (dVar 0))))) (dRet (dC .non)) dNext)
    (dRet (dOp rIx (dVar 2) (dC (.int 0))))))
theorem has_read_any (T : Top w K mg) : Has P w K mg base (He.ga K) "read_any" 29 m_read_any := by
  obtain ⟨fd, D⟩ := T.d_read_any
  have h_term_at := has_term_at (P := P) (base := base) T 13
  have h_has_form := has_has_form (P := P) (base := base) T
  have h_spelled := has_spelled (P := P) (base := base) T 14
  exact has_of (k := 28) D T.g_read_any sc_read_any rfl rfl (D.bindsN fun _ _ _ _ _ _ us hl => match us, hl with | [_, _], _ => rfl)
    (fun cdv A outer s H E B O hr => by
    have tk : Takes (cxOf (L2.CX P w) P w K mg base ["text", "open_so", "found"] "read_any" (defScope s_read_any) (He.fAd K ("read_any", none)) cdv A outer s H E) (fun cls d _ H => E cls d H) := takes_of rfl rfl rfl rfl
    have po : PassesOwn (model P w) (cxOf (L2.CX P w) P w K mg base ["text", "open_so", "found"] "read_any" (defScope s_read_any) (He.fAd K ("read_any", none)) cdv A outer s H E).A (cxOf (L2.CX P w) P w K mg base ["text", "open_so", "found"] "read_any" (defScope s_read_any) (He.fAd K ("read_any", none)) cdv A outer s H E).env (cxOf (L2.CX P w) P w K mg base ["text", "open_so", "found"] "read_any" (defScope s_read_any) (He.fAd K ("read_any", none)) cdv A outer s H E).xe := po_of rfl
    exact (sCons (sSet (i := 2) sc_read_any.nd rfl (by first | exact Or.inl rfl | exact Or.inr rfl) (xCall h_term_at (hr.mono (by omega)) tk rfl (aCons (xVar (pv 0)) (aCons xInt (aCons (xGInt T.c_MOST_DEPTH) aNil)))))
      (sCons (sIf (yW (wOr (yCmpD oIs (xVar (pv 2)) xNon) (wOr (yNot (yVal (xCall h_has_form (hr.mono (by omega)) tk rfl (aCons (xIx (hu65 hr) (xVar (pv 2)) xInt) (aCons (xVar (pv 1)) aNil))))) (wOr1 (yCmpD (oNe (hu64 hr)) (xCall h_spelled (hr.mono (by omega)) tk rfl (aCons (xIx (hu65 hr) (xVar (pv 2)) xInt) aNil)) (xVar (pv 0))))))) (sOne (sRet xNon)) sNil)
      (sOne (sRet (xIx (hu65 hr) (xVar (pv 2)) xInt))))))
def m_read_term : DFn := dFn 2 1
    (dSeq (dIfS (dNot (dTest (dCB rIsi (dCons (dVar 0) (dCons (dC (.ty "str")) dNil))))) dNever dNext)
    (dSeq (dAsg 1 (dCall m_read_any (dCons (dVar 0) (dCons (dC (.bl false)) dNil))))
    (dSeq (dIfS (dTest (dOp rIs (dVar 1) (dC .non))) dNever dNext)
    (dRet (dVar 1)))))
theorem has_read_term (T : Top w K mg) : Has P w K mg base (He.ga K) "read_term" 30 m_read_term := by
  obtain ⟨fd, D⟩ := T.d_read_term
  have h_read_any := has_read_any (P := P) (base := base) T
  exact has_of (k := 29) D T.g_read_term sc_read_term rfl rfl (D.bindsN fun _ _ _ _ _ _ us hl => match us, hl with | [_], _ => rfl)
    (fun cdv A outer s H E B O hr => by
    have tk : Takes (cxOf (L2.CX P w) P w K mg base ["text", "term"] "read_term" (defScope s_read_term) (He.fAd K ("read_term", none)) cdv A outer s H E) (fun cls d _ H => E cls d H) := takes_of rfl rfl rfl rfl
    have po : PassesOwn (model P w) (cxOf (L2.CX P w) P w K mg base ["text", "term"] "read_term" (defScope s_read_term) (He.fAd K ("read_term", none)) cdv A outer s H E).A (cxOf (L2.CX P w) P w K mg base ["text", "term"] "read_term" (defScope s_read_term) (He.fAd K ("read_term", none)) cdv A outer s H E).env (cxOf (L2.CX P w) P w K mg base ["text", "term"] "read_term" (defScope s_read_term) (He.fAd K ("read_term", none)) cdv A outer s H E).xe := po_of rfl
    exact (sCons (sIf (yNot (yVal (xCallB cIsi rfl T.n_isinstance (by decide +kernel) (aCons (xVar (pv 0)) (aCons (xTy rfl T.n_str (by decide +kernel)) aNil))))) sNever sNil)
      (sCons (sSet (i := 1) sc_read_term.nd rfl (by first | exact Or.inl rfl | exact Or.inr rfl) (xCall h_read_any (hr.mono (by omega)) tk rfl (aCons (xVar (pv 0)) (aCons xBl aNil))))
      (sCons (sIf (yCmpD oIs (xVar (pv 1)) xNon) sNever sNil)
      (sOne (sRet (xVar (pv 1))))))))
def m_law_same : Nat → DFn
  | 0 => fun _ _ _ => False
  | n + 1 => dFn 4 2
    (dSeq (dIfS (dTest (dOp rIs (dVar 1) (dC .non))) (dRet (dOp rIs (dVar 0) (dC .non))) dNext)
    (dSeq (dIfS (dOr (dTest (dCB rIsi (dCons (dVar 1) (dCons (dC (.ty "bool")) dNil)))) (dTest (dCB rIsi (dCons (dVar 0) (dCons (dC (.ty "bool")) dNil))))) (dRet (dAndV (dCB rIsi (dCons (dVar 1) (dCons (dC (.ty "bool")) dNil))) (dAndV (dCB rIsi (dCons (dVar 0) (dCons (dC (.ty "bool")) dNil))) (dOp rEq (dVar 0) (dVar 1))))) dNext)
    (dSeq (dIfS (dTest (dCB rIsi (dCons (dVar 1) (dCons (dC (.ty "int")) dNil)))) (dRet (dAndV (dCB rIsi (dCons (dVar 0) (dCons (dC (.ty "int")) dNil))) (dOp rEq (dVar 0) (dVar 1)))) dNext)
    (dSeq (dIfS (dTest (dCB rIsi (dCons (dVar 1) (dCons (dC (.ty "str")) dNil)))) (dRet (dAndV (dCB rIsi (dCons (dVar 0) (dCons (dC (.ty "str")) dNil))) (dOp rEq (dVar 0) (dVar 1)))) dNext)
    (dSeq (dIfS (dTest (dCB rIsi (dCons (dVar 1) (dCons (dC (.ty "dict")) dNil)))) dNever dNext)
    (dSeq (dIfS (dOr (dTest (dOp rNe (dCB rIsi (dCons (dVar 1) (dCons (dC (.ty "list")) dNil))) (dCB rIsi (dCons (dVar 0) (dCons (dC (.ty "list")) dNil))))) (dNot (dTest (dIsi2 "list" "tuple" (dVar 0))))) (dRet (dC (.bl false))) dNext)
    (dSeq (dIfS (dTest (dOp rNe (dCB rLen (dCons (dVar 0) dNil)) (dCB rLen (dCons (dVar 1) dNil)))) (dRet (dC (.bl false))) dNext)
    (dRet (dOp rEq (dCB rLen (dCons (dLc (dRng1 (dCons (dCB rLen (dCons (dVar 1) dNil)) dNil)) (tName 3) (dNot (dTest (dCall (m_law_same n) (dCons (dOp rIx (dVar 0) (dVar 3)) (dCons (dOp rIx (dVar 1) (dVar 3)) dNil))))) (dVar 3) [3]) dNil)) (dC (.int 0)))))))))))
theorem has_law_same (T : Top w K mg) : ∀ n : Nat, Has P w K mg base (He.ga K) "_law_same" (1 + 1 * n) (m_law_same n)
  | 0 => by
    obtain ⟨fd, D⟩ := T.d_law_same
    exact has_false (ps := ["_law_actual", "_law_due"]) D T.g_law_same (D.bindsN fun _ _ _ _ _ _ us hl => match us, hl with | [_, _], _ => rfl)
  | n + 1 => by
    obtain ⟨fd, D⟩ := T.d_law_same
    have h_law_same := has_law_same T n
    exact Has.mono (has_of (k := 1 + 1 * n) D T.g_law_same sc_law_same rfl rfl (D.bindsN fun _ _ _ _ _ _ us hl => match us, hl with | [_, _], _ => rfl)
    (fun cdv A outer s H E B O hr => by
    have tk : Takes (cxOf (L2.CX P w) P w K mg base ["_law_actual", "_law_due", "_law_key", "_law_k"] "_law_same" (defScope s_law_same) (He.fAd K ("_law_same", none)) cdv A outer s H E) (fun cls d _ H => E cls d H) := takes_of rfl rfl rfl rfl
    have po : PassesOwn (model P w) (cxOf (L2.CX P w) P w K mg base ["_law_actual", "_law_due", "_law_key", "_law_k"] "_law_same" (defScope s_law_same) (He.fAd K ("_law_same", none)) cdv A outer s H E).A (cxOf (L2.CX P w) P w K mg base ["_law_actual", "_law_due", "_law_key", "_law_k"] "_law_same" (defScope s_law_same) (He.fAd K ("_law_same", none)) cdv A outer s H E).env (cxOf (L2.CX P w) P w K mg base ["_law_actual", "_law_due", "_law_key", "_law_k"] "_law_same" (defScope s_law_same) (He.fAd K ("_law_same", none)) cdv A outer s H E).xe := po_of rfl
    exact (sCons (sIf (yCmpD oIs (xVar (pv 1)) xNon) (sOne (sRet (xCmpD oIs (xVar (pv 0)) xNon))) sNil)
      (sCons (sIf (yW (wOr (yVal (xCallB cIsi rfl T.n_isinstance (by decide +kernel) (aCons (xVar (pv 1)) (aCons (xTy rfl T.n_bool (by decide +kernel)) aNil)))) (wOr1 (yVal (xCallB cIsi rfl T.n_isinstance (by decide +kernel) (aCons (xVar (pv 0)) (aCons (xTy rfl T.n_bool (by decide +kernel)) aNil))))))) (sOne (sRet (xAnd (xCallB cIsi rfl T.n_isinstance (by decide +kernel) (aCons (xVar (pv 1)) (aCons (xTy rfl T.n_bool (by decide +kernel)) aNil))) (xAnd (xCallB cIsi rfl T.n_isinstance (by decide +kernel) (aCons (xVar (pv 0)) (aCons (xTy rfl T.n_bool (by decide +kernel)) aNil))) (xOne (xCmpD (oEq (hu64 hr)) (xVar (pv 0)) (xVar (pv 1)))))))) sNil)
      (sCons (sIf (yVal (xCallB cIsi rfl T.n_isinstance (by decide +kernel) (aCons (xVar (pv 1)) (aCons (xTy rfl T.n_int (by decide +kernel)) aNil)))) (sOne (sRet (xAnd (xCallB cIsi rfl T.n_isinstance (by decide +kernel) (aCons (xVar (pv 0)) (aCons (xTy rfl T.n_int (by decide +kernel)) aNil))) (xOne (xCmpD (oEq (hu64 hr)) (xVar (pv 0)) (xVar (pv 1))))))) sNil)
      (sCons (sIf (yVal (xCallB cIsi rfl T.n_isinstance (by decide +kernel) (aCons (xVar (pv 1)) (aCons (xTy rfl T.n_str (by decide +kernel)) aNil)))) (sOne (sRet (xAnd (xCallB cIsi rfl T.n_isinstance (by decide +kernel) (aCons (xVar (pv 0)) (aCons (xTy rfl T.n_str (by decide +kernel)) aNil))) (xOne (xCmpD (oEq (hu64 hr)) (xVar (pv 0)) (xVar (pv 1))))))) sNil)
      (sCons (sIf (yVal (xCallB cIsi rfl T.n_isinstance (by decide +kernel) (aCons (xVar (pv 1)) (aCons (xTy rfl T.n_dict (by decide +kernel)) aNil)))) sNever sNil)
      (sCons (sIf (yW (wOr (yCmpD (oNe (hu64 hr)) (xCallB cIsi rfl T.n_isinstance (by decide +kernel) (aCons (xVar (pv 1)) (aCons (xTy rfl T.n_list (by decide +kernel)) aNil))) (xCallB cIsi rfl T.n_isinstance (by decide +kernel) (aCons (xVar (pv 0)) (aCons (xTy rfl T.n_list (by decide +kernel)) aNil)))) (wOr1 (yNot (yVal (xIsi2 (xVar (pv 0)) rfl T.n_isinstance rfl T.n_list (by decide +kernel) rfl T.n_tuple (by decide +kernel) (by decide) (by decide))))))) (sOne (sRet xBl)) sNil)
      (sCons (sIf (yCmpD (oNe (hu64 hr)) (xCallB cLen rfl T.n_len (by decide +kernel) (aCons (xVar (pv 0)) aNil)) (xCallB cLen rfl T.n_len (by decide +kernel) (aCons (xVar (pv 1)) aNil))) (sOne (sRet xBl)) sNil)
      (sOne (sRet (xCmpD (oEq (hu64 hr)) (xCallB cLen rfl T.n_len (by decide +kernel) (aCons (xNew (nLc rfl sc_law_same.nd (blkOk_by (own := [("_law_k", 3)]) (by kernel_rfl)) (iRange1 rfl T.n_range (aCons (xCallB cLen rfl T.n_len (by decide +kernel) (aCons (xVar (pv 1)) aNil)) aNil)) (fun _ _ _ _ _ _ => (gName1 (pg_name (i := 3) sc_law_same.nd rfl (by first | exact Or.inl rfl | exact Or.inr rfl)) (by decide))) (fun _ _ _ _ _ _ => (tOneD (yNot (yVal (xCall h_law_same (hr.mono (by omega)) takes0 rfl (aCons (xIx (hu65 hr) (xVar (pv 0)) (xVar (pv 3))) (aCons (xIx (hu65 hr) (xVar (pv 1)) (xVar (pv 3))) aNil))))))) (fun _ _ _ _ _ _ => (xVar (pv 3))))) aNil)) xInt)))))))))))) (by omega)
def m_law_names : DFn := dFn 9 2
    (dSeq (dAsg 2 (dC (.str "abcdefghijklmnoprstuvwxyz")))
    (dSeq (dOwn 3 (dLst dNil))
    (dSeq (dFor (dRng1 (dCons (dVar 1) dNil)) (tName 4) (dSeq (dAsg 5 (dOp rIx (dLst (dCons (dC (.int 1)) (dCons (dC (.int 1)) (dCons (dC (.int 2)) (dCons (dC (.int 3)) (dCons (dC (.int 8)) dNil)))))) (dCall m_draw (dCons (dVar 0) (dCons (dC (.int 5)) dNil)))))
    (dSeq (dAsg 6 (dJoin (dC (.str "")) (dLc (dRng1 (dCons (dVar 5) dNil)) (tName 7) dYes (dOp rIx (dVar 2) (dCall m_draw (dCons (dVar 0) (dCons (dC (.int 25)) dNil)))) [7])))
    (dSeq (dIfS (dTest (dOp rEq (dCall m_draw (dCons (dVar 0) (dCons (dC (.int 12)) dNil))) (dC (.int 0)))) (dAsg 6 (dOp rIx (dLst (dCons (dC (.str "half")) (dCons (dC (.str "mix")) (dCons (dC (.str "pair")) (dCons (dC (.str "box")) (dCons (dC (.str "var")) (dCons (dC (.str "heard")) dNil))))))) (dCall m_draw (dCons (dVar 0) (dCons (dC (.int 6)) dNil))))) dNext)
    (dSeq (dIfS (dTest (dOpOwn (rIn false) (dVar 6) 3)) (dAsg 6 (dOp rIx (dLc (dItems (dVar 2)) (tName 8) (dTest (dOpOwn (rIn true) (dOp rAdd (dVar 8) (dC (.str "y"))) 3)) (dOp rAdd (dVar 8) (dC (.str "y"))) [8]) (dC (.int 0)))) dNext)
    (dAppend 3 (dVar 6)))))))
    (dFrz 3 (dRet (dVar 3))))))
theorem has_law_names (T : Top w K mg) : Has P w K mg base (He.ga K) "_law_names" 3 m_law_names := by
  obtain ⟨fd, D⟩ := T.d_law_names
  have h_law_draw := has_draw (P := P) (base := base) T
  exact has_of (k := 2) D T.g_law_names sc_law_names rfl rfl (D.bindsN fun _ _ _ _ _ _ us hl => match us, hl with | [_, _], _ => rfl)
    (fun cdv A outer s H E B O hr => by
    have tk : Takes (cxOf (L2.CX P w) P w K mg base ["_law_bag_here", "_law_many", "_law_letters", "_law_names_here", "_law_k", "_law_size", "_law_name", "_law_at", "_law_letter"] "_law_names" (defScope s_law_names) (He.fAd K ("_law_names", none)) cdv A outer s H E) (fun cls d _ H => E cls d H) := takes_of rfl rfl rfl rfl
    have po : PassesOwn (model P w) (cxOf (L2.CX P w) P w K mg base ["_law_bag_here", "_law_many", "_law_letters", "_law_names_here", "_law_k", "_law_size", "_law_name", "_law_at", "_law_letter"] "_law_names" (defScope s_law_names) (He.fAd K ("_law_names", none)) cdv A outer s H E).A (cxOf (L2.CX P w) P w K mg base ["_law_bag_here", "_law_many", "_law_letters", "_law_names_here", "_law_k", "_law_size", "_law_name", "_law_at", "_law_letter"] "_law_names" (defScope s_law_names) (He.fAd K ("_law_names", none)) cdv A outer s H E).env (cxOf (L2.CX P w) P w K mg base ["_law_bag_here", "_law_many", "_law_letters", "_law_names_here", "_law_k", "_law_size", "_law_name", "_law_at", "_law_letter"] "_law_names" (defScope s_law_names) (He.fAd K ("_law_names", none)) cdv A outer s H E).xe := po_of rfl
    exact (sCons (sSet (i := 2) sc_law_names.nd rfl (by first | exact Or.inl rfl | exact Or.inr rfl) (xStr (okS_by (by decide +kernel))))
      (sCons (sOwn (i := 3) sc_law_names.nd rfl (by first | exact Or.inl rfl | exact Or.inr rfl) (nLst aNil))
      (sCons (sFor (vs := [4]) po rfl (iRange1 rfl T.n_range (aCons (xVar (pv 1)) aNil)) (fun _ => (gName1 (pg_name (i := 4) sc_law_names.nd rfl (by first | exact Or.inl rfl | exact Or.inr rfl)) (by decide))) (fun _ => (sCons (sSet (i := 5) sc_law_names.nd rfl (by first | exact Or.inl rfl | exact Or.inr rfl) (xIx (hu65 hr) (xNew (nLst (aCons xInt (aCons xInt (aCons xInt (aCons xInt (aCons xInt aNil))))))) (xCall h_law_draw (hr.mono (by omega)) tk rfl (aCons (xVar (pv 0)) (aCons xInt aNil)))))
      (sCons (sSet (i := 6) sc_law_names.nd rfl (by first | exact Or.inl rfl | exact Or.inr rfl) (xJoin (xStr (okS_by (by decide +kernel))) (xNew (nLc rfl sc_law_names.nd (blkOk_by (own := [("_law_at", 7)]) (by kernel_rfl)) (iRange1 rfl T.n_range (aCons (xVar (pv 5)) aNil)) (fun _ _ _ _ _ _ => (gName1 (pg_name (i := 7) sc_law_names.nd rfl (by first | exact Or.inl rfl | exact Or.inr rfl)) (by decide))) (fun _ _ _ _ _ _ => tYesD) (fun _ _ _ _ _ _ => (xIx (hu65 hr) (xVar (pv 2)) (xCall h_law_draw (hr.mono (by omega)) takes0 rfl (aCons (xVar (pv 0)) (aCons xInt aNil)))))))))
      (sCons (sIf (yCmpD (oEq (hu64 hr)) (xCall h_law_draw (hr.mono (by omega)) tk rfl (aCons (xVar (pv 0)) (aCons xInt aNil))) xInt) (sOne (sSet (i := 6) sc_law_names.nd rfl (by first | exact Or.inl rfl | exact Or.inr rfl) (xIx (hu65 hr) (xNew (nLst (aCons (xStr (okS_by (by decide +kernel))) (aCons (xStr (okS_by (by decide +kernel))) (aCons (xStr (okS_by (by decide +kernel))) (aCons (xStr (okS_by (by decide +kernel))) (aCons (xStr (okS_by (by decide +kernel))) (aCons (xStr (okS_by (by decide +kernel))) aNil)))))))) (xCall h_law_draw (hr.mono (by omega)) tk rfl (aCons (xVar (pv 0)) (aCons xInt aNil)))))) sNil)
      (sCons (sIf (yCmpOwn (oIn (hu65 hr)) (xVar (pv 6)) (pv 3)) (sOne (sSet (i := 6) sc_law_names.nd rfl (by first | exact Or.inl rfl | exact Or.inr rfl) (xIx (hu65 hr) (xNew (nLc rfl sc_law_names.nd (blkOk_by (own := [("_law_letter", 8)]) (by kernel_rfl)) (iSeq (xVar (pv 2))) (fun _ _ _ _ _ _ => (gName1 (pg_name (i := 8) sc_law_names.nd rfl (by first | exact Or.inl rfl | exact Or.inr rfl)) (by decide))) (fun _ _ _ _ _ _ => (tOneD (yCmpOwn (oNotIn (hu65 hr)) (xOpD oAdd (xVar (pv 8)) (xStr (okS_by (by decide +kernel)))) (pv 3)))) (fun _ _ _ _ _ _ => (xOpD oAdd (xVar (pv 8)) (xStr (okS_by (by decide +kernel))))))) xInt))) sNil)
      (sOne (sAppendX (pv 3) (xVar (pv 6))))))))))
      (sFrz (i := 3) (sOne (sRet (xVar (pv 3)))))))))
def m_law_pick : DFn := dFn 2 2
    (dRet (dOp rIx (dVar 1) (dCall m_draw (dCons (dVar 0) (dCons (dCB rLen (dCons (dVar 1) dNil)) dNil)))))
theorem has_law_pick (T : Top w K mg) : Has P w K mg base (He.ga K) "_law_pick" 3 m_law_pick := by
  obtain ⟨fd, D⟩ := T.d_law_pick
  have h_law_draw := has_draw (P := P) (base := base) T
  exact has_of (k := 2) D T.g_law_pick sc_law_pick rfl rfl (D.bindsN fun _ _ _ _ _ _ us hl => match us, hl with | [_, _], _ => rfl)
    (fun cdv A outer s H E B O hr => by
    have tk : Takes (cxOf (L2.CX P w) P w K mg base ["_law_bag_here", "_law_things"] "_law_pick" (defScope s_law_pick) (He.fAd K ("_law_pick", none)) cdv A outer s H E) (fun cls d _ H => E cls d H) := takes_of rfl rfl rfl rfl
    have po : PassesOwn (model P w) (cxOf (L2.CX P w) P w K mg base ["_law_bag_here", "_law_things"] "_law_pick" (defScope s_law_pick) (He.fAd K ("_law_pick", none)) cdv A outer s H E).A (cxOf (L2.CX P w) P w K mg base ["_law_bag_here", "_law_things"] "_law_pick" (defScope s_law_pick) (He.fAd K ("_law_pick", none)) cdv A outer s H E).env (cxOf (L2.CX P w) P w K mg base ["_law_bag_here", "_law_things"] "_law_pick" (defScope s_law_pick) (He.fAd K ("_law_pick", none)) cdv A outer s H E).xe := po_of rfl
    exact (sOne (sRet (xIx (hu65 hr) (xVar (pv 1)) (xCall h_law_draw (hr.mono (by omega)) tk rfl (aCons (xVar (pv 0)) (aCons (xCallB cLen rfl T.n_len (by decide +kernel) (aCons (xVar (pv 1)) aNil)) aNil)))))))
def m_law_leaf : DFn := dFn 3 3
    (dSeq (dIfS (dAnd (dTest (dOp rGt (dCB rLen (dCons (dVar 2) dNil)) (dC (.int 0)))) (dOr (dTest (dOp rEq (dCB rLen (dCons (dVar 1) dNil)) (dC (.int 0)))) (dTest (dOp rGt (dCall m_draw (dCons (dVar 0) (dCons (dC (.int 4)) dNil))) (dC (.int 0)))))) (dRet (dTup (dCons (dC (.str "var")) (dCons (dCall m_law_pick (dCons (dVar 0) (dCons (dVar 2) dNil))) dNil)))) dNext)
    (dRet (dCall m_law_pick (dCons (dVar 0) (dCons (dVar 1) dNil)))))
theorem has_law_leaf (T : Top w K mg) : Has P w K mg base (He.ga K) "_law_leaf" 4 m_law_leaf := by
  obtain ⟨fd, D⟩ := T.d_law_leaf
  have h_law_draw := has_draw (P := P) (base := base) T
  have h_law_pick := has_law_pick (P := P) (base := base) T
  exact has_of (k := 3) D T.g_law_leaf sc_law_leaf rfl rfl (D.bindsN fun _ _ _ _ _ _ us hl => match us, hl with | [_, _, _], _ => rfl)
    (fun cdv A outer s H E B O hr => by
    have tk : Takes (cxOf (L2.CX P w) P w K mg base ["_law_bag_here", "_law_names_here", "_law_variables"] "_law_leaf" (defScope s_law_leaf) (He.fAd K ("_law_leaf", none)) cdv A outer s H E) (fun cls d _ H => E cls d H) := takes_of rfl rfl rfl rfl
    have po : PassesOwn (model P w) (cxOf (L2.CX P w) P w K mg base ["_law_bag_here", "_law_names_here", "_law_variables"] "_law_leaf" (defScope s_law_leaf) (He.fAd K ("_law_leaf", none)) cdv A outer s H E).A (cxOf (L2.CX P w) P w K mg base ["_law_bag_here", "_law_names_here", "_law_variables"] "_law_leaf" (defScope s_law_leaf) (He.fAd K ("_law_leaf", none)) cdv A outer s H E).env (cxOf (L2.CX P w) P w K mg base ["_law_bag_here", "_law_names_here", "_law_variables"] "_law_leaf" (defScope s_law_leaf) (He.fAd K ("_law_leaf", none)) cdv A outer s H E).xe := po_of rfl
    exact (sCons (sIf (yW (wAnd (yCmpD oGt (xCallB cLen rfl T.n_len (by decide +kernel) (aCons (xVar (pv 2)) aNil)) xInt) (wAnd1 (yW (wOr (yCmpD (oEq (hu64 hr)) (xCallB cLen rfl T.n_len (by decide +kernel) (aCons (xVar (pv 1)) aNil)) xInt) (wOr1 (yCmpD oGt (xCall h_law_draw (hr.mono (by omega)) tk rfl (aCons (xVar (pv 0)) (aCons xInt aNil))) xInt))))))) (sOne (sRet (xTup (aCons (xStr (okS_by (by decide +kernel))) (aCons (xCall h_law_pick (hr.mono (by omega)) tk rfl (aCons (xVar (pv 0)) (aCons (xVar (pv 2)) aNil))) aNil))))) sNil)
      (sOne (sRet (xCall h_law_pick (hr.mono (by omega)) tk rfl (aCons (xVar (pv 0)) (aCons (xVar (pv 1)) aNil)))))))
def m_law_pattern : Nat → DFn
  | 0 => fun _ _ _ => False
  | n + 1 => dFn 9 4
    (dSeq (dAsg 4 (dCall m_draw (dCons (dVar 0) (dCons (dC (.int 14)) dNil))))
    (dSeq (dIfS (dOr (dTest (dOp rEq (dVar 3) (dC (.int 1)))) (dTest (dOp rLt (dVar 4) (dC (.int 4))))) (dRet (dCall m_law_leaf (dCons (dVar 0) (dCons (dVar 1) (dCons (dVar 2) dNil))))) dNext)
    (dSeq (dIfS (dTest (dOp rLt (dVar 4) (dC (.int 7)))) (dSeq (dAsg 5 (dCall (m_law_pattern n) (dCons (dVar 0) (dCons (dVar 1) (dCons (dVar 2) (dCons (dOp rSub (dVar 3) (dC (.int 1))) dNil))))))
    (dRet (dTup (dCons (dC (.str "pair")) (dCons (dVar 5) (dCons (dCall (m_law_pattern n) (dCons (dVar 0) (dCons (dVar 1) (dCons (dVar 2) (dCons (dOp rSub (dVar 3) (dC (.int 1))) dNil))))) dNil)))))) dNext)
    (dSeq (dIfS (dTest (dOp rLt (dVar 4) (dC (.int 10)))) (dSeq (dAsg 6 (dCall m_law_leaf (dCons (dVar 0) (dCons (dVar 1) (dCons (dVar 2) dNil)))))
    (dSeq (dIfS (dTest (dOp rEq (dCall m_draw (dCons (dVar 0) (dCons (dC (.int 5)) dNil))) (dC (.int 0)))) (dAsg 6 (dCall (m_law_pattern n) (dCons (dVar 0) (dCons (dVar 1) (dCons (dVar 2) (dCons (dOp rSub (dVar 3) (dC (.int 1))) dNil)))))) dNext)
    (dRet (dTup (dCons (dC (.str "box")) (dCons (dVar 6) (dCons (dCall (m_law_pattern n) (dCons (dVar 0) (dCons (dVar 1) (dCons (dVar 2) (dCons (dOp rSub (dVar 3) (dC (.int 1))) dNil))))) dNil))))))) dNext)
    (dSeq (dAsg 7 (dCall m_law_leaf (dCons (dVar 0) (dCons (dVar 1) (dCons (dVar 2) dNil)))))
    (dSeq (dIfS (dTest (dOp rEq (dVar 4) (dC (.int 10)))) (dRet (dTup (dCons (dC (.str "half")) (dCons (dVar 7) dNil)))) dNext)
    (dSeq (dAsg 8 (dCall (m_law_pattern n) (dCons (dVar 0) (dCons (dVar 1) (dCons (dVar 2) (dCons (dOp rSub (dVar 3) (dC (.int 1))) dNil))))))
    (dSeq (dIfS (dTest (dOp rEq (dVar 4) (dC (.int 11)))) (dRet (dTup (dCons (dC (.str "shut")) (dCons (dVar 7) (dCons (dVar 8) dNil))))) dNext)
    (dSeq (dIfS (dTest (dOp rEq (dVar 4) (dC (.int 12)))) (dRet (dTup (dCons (dC (.str "mark")) (dCons (dVar 7) (dCons (dVar 8) dNil))))) dNext)
    (dRet (dTup (dCons (dC (.str "mix")) (dCons (dVar 8) dNil)))))))))))))
theorem has_law_pattern (T : Top w K mg) : ∀ n : Nat, Has P w K mg base (He.ga K) "_law_pattern" (5 + 1 * n) (m_law_pattern n)
  | 0 => by
    obtain ⟨fd, D⟩ := T.d_law_pattern
    exact has_false (ps := ["_law_bag_here", "_law_names_here", "_law_variables", "_law_depth"]) D T.g_law_pattern (D.bindsN fun _ _ _ _ _ _ us hl => match us, hl with | [_, _, _, _], _ => rfl)
  | n + 1 => by
    obtain ⟨fd, D⟩ := T.d_law_pattern
    have h_law_pattern := has_law_pattern T n
    have h_law_draw := has_draw (P := P) (base := base) T
    have h_law_leaf := has_law_leaf (P := P) (base := base) T
    exact Has.mono (has_of (k := 5 + 1 * n) D T.g_law_pattern sc_law_pattern rfl rfl (D.bindsN fun _ _ _ _ _ _ us hl => match us, hl with | [_, _, _, _], _ => rfl)
    (fun cdv A outer s H E B O hr => by
    have tk : Takes (cxOf (L2.CX P w) P w K mg base ["_law_bag_here", "_law_names_here", "_law_variables", "_law_depth", "_law_kind", "_law_first", "_law_key", "_law_leaf_here", "_law_inner"] "_law_pattern" (defScope s_law_pattern) (He.fAd K ("_law_pattern", none)) cdv A outer s H E) (fun cls d _ H => E cls d H) := takes_of rfl rfl rfl rfl
    have po : PassesOwn (model P w) (cxOf (L2.CX P w) P w K mg base ["_law_bag_here", "_law_names_here", "_law_variables", "_law_depth", "_law_kind", "_law_first", "_law_key", "_law_leaf_here", "_law_inner"] "_law_pattern" (defScope s_law_pattern) (He.fAd K ("_law_pattern", none)) cdv A outer s H E).A (cxOf (L2.CX P w) P w K mg base ["_law_bag_here", "_law_names_here", "_law_variables", "_law_depth", "_law_kind", "_law_first", "_law_key", "_law_leaf_here", "_law_inner"] "_law_pattern" (defScope s_law_pattern) (He.fAd K ("_law_pattern", none)) cdv A outer s H E).env (cxOf (L2.CX P w) P w K mg base ["_law_bag_here", "_law_names_here", "_law_variables", "_law_depth", "_law_kind", "_law_first", "_law_key", "_law_leaf_here", "_law_inner"] "_law_pattern" (defScope s_law_pattern) (He.fAd K ("_law_pattern", none)) cdv A outer s H E).xe := po_of rfl
    exact (sCons (sSet (i := 4) sc_law_pattern.nd rfl (by first | exact Or.inl rfl | exact Or.inr rfl) (xCall h_law_draw (hr.mono (by omega)) tk rfl (aCons (xVar (pv 0)) (aCons xInt aNil))))
      (sCons (sIf (yW (wOr (yCmpD (oEq (hu64 hr)) (xVar (pv 3)) xInt) (wOr1 (yCmpD oLt (xVar (pv 4)) xInt)))) (sOne (sRet (xCall h_law_leaf (hr.mono (by omega)) tk rfl (aCons (xVar (pv 0)) (aCons (xVar (pv 1)) (aCons (xVar (pv 2)) aNil)))))) sNil)
      (sCons (sIf (yCmpD oLt (xVar (pv 4)) xInt) (sCons (sSet (i := 5) sc_law_pattern.nd rfl (by first | exact Or.inl rfl | exact Or.inr rfl) (xCall h_law_pattern (hr.mono (by omega)) tk rfl (aCons (xVar (pv 0)) (aCons (xVar (pv 1)) (aCons (xVar (pv 2)) (aCons (xOpD oSub (xVar (pv 3)) xInt) aNil))))))
      (sOne (sRet (xTup (aCons (xStr (okS_by (by decide +kernel))) (aCons (xVar (pv 5)) (aCons (xCall h_law_pattern (hr.mono (by omega)) tk rfl (aCons (xVar (pv 0)) (aCons (xVar (pv 1)) (aCons (xVar (pv 2)) (aCons (xOpD oSub (xVar (pv 3)) xInt) aNil))))) aNil))))))) sNil)
      (sCons (sIf (yCmpD oLt (xVar (pv 4)) xInt) (sCons (sSet (i := 6) sc_law_pattern.nd rfl (by first | exact Or.inl rfl | exact Or.inr rfl) (xCall h_law_leaf (hr.mono (by omega)) tk rfl (aCons (xVar (pv 0)) (aCons (xVar (pv 1)) (aCons (xVar (pv 2)) aNil)))))
      (sCons (sIf (yCmpD (oEq (hu64 hr)) (xCall h_law_draw (hr.mono (by omega)) tk rfl (aCons (xVar (pv 0)) (aCons xInt aNil))) xInt) (sOne (sSet (i := 6) sc_law_pattern.nd rfl (by first | exact Or.inl rfl | exact Or.inr rfl) (xCall h_law_pattern (hr.mono (by omega)) tk rfl (aCons (xVar (pv 0)) (aCons (xVar (pv 1)) (aCons (xVar (pv 2)) (aCons (xOpD oSub (xVar (pv 3)) xInt) aNil))))))) sNil)
      (sOne (sRet (xTup (aCons (xStr (okS_by (by decide +kernel))) (aCons (xVar (pv 6)) (aCons (xCall h_law_pattern (hr.mono (by omega)) tk rfl (aCons (xVar (pv 0)) (aCons (xVar (pv 1)) (aCons (xVar (pv 2)) (aCons (xOpD oSub (xVar (pv 3)) xInt) aNil))))) aNil)))))))) sNil)
      (sCons (sSet (i := 7) sc_law_pattern.nd rfl (by first | exact Or.inl rfl | exact Or.inr rfl) (xCall h_law_leaf (hr.mono (by omega)) tk rfl (aCons (xVar (pv 0)) (aCons (xVar (pv 1)) (aCons (xVar (pv 2)) aNil)))))
      (sCons (sIf (yCmpD (oEq (hu64 hr)) (xVar (pv 4)) xInt) (sOne (sRet (xTup (aCons (xStr (okS_by (by decide +kernel))) (aCons (xVar (pv 7)) aNil))))) sNil)
      (sCons (sSet (i := 8) sc_law_pattern.nd rfl (by first | exact Or.inl rfl | exact Or.inr rfl) (xCall h_law_pattern (hr.mono (by omega)) tk rfl (aCons (xVar (pv 0)) (aCons (xVar (pv 1)) (aCons (xVar (pv 2)) (aCons (xOpD oSub (xVar (pv 3)) xInt) aNil))))))
      (sCons (sIf (yCmpD (oEq (hu64 hr)) (xVar (pv 4)) xInt) (sOne (sRet (xTup (aCons (xStr (okS_by (by decide +kernel))) (aCons (xVar (pv 7)) (aCons (xVar (pv 8)) aNil)))))) sNil)
      (sCons (sIf (yCmpD (oEq (hu64 hr)) (xVar (pv 4)) xInt) (sOne (sRet (xTup (aCons (xStr (okS_by (by decide +kernel))) (aCons (xVar (pv 7)) (aCons (xVar (pv 8)) aNil)))))) sNil)
      (sOne (sRet (xTup (aCons (xStr (okS_by (by decide +kernel))) (aCons (xVar (pv 8)) aNil)))))))))))))))) (by omega)
def m_law_term : DFn := dFn 3 3
    (dRet (dCall (m_law_pattern 5) (dCons (dVar 0) (dCons (dVar 1) (dCons (dLst dNil) (dCons (dVar 2) dNil))))))
theorem has_law_term (T : Top w K mg) : Has P w K mg base (He.ga K) "_law_term" 11 m_law_term := by
  obtain ⟨fd, D⟩ := T.d_law_term
  have h_law_pattern := has_law_pattern (P := P) (base := base) T 5
  exact has_of (k := 10) D T.g_law_term sc_law_term rfl rfl (D.bindsN fun _ _ _ _ _ _ us hl => match us, hl with | [_, _, _], _ => rfl)
    (fun cdv A outer s H E B O hr => by
    have tk : Takes (cxOf (L2.CX P w) P w K mg base ["_law_bag_here", "_law_names_here", "_law_depth"] "_law_term" (defScope s_law_term) (He.fAd K ("_law_term", none)) cdv A outer s H E) (fun cls d _ H => E cls d H) := takes_of rfl rfl rfl rfl
    have po : PassesOwn (model P w) (cxOf (L2.CX P w) P w K mg base ["_law_bag_here", "_law_names_here", "_law_depth"] "_law_term" (defScope s_law_term) (He.fAd K ("_law_term", none)) cdv A outer s H E).A (cxOf (L2.CX P w) P w K mg base ["_law_bag_here", "_law_names_here", "_law_depth"] "_law_term" (defScope s_law_term) (He.fAd K ("_law_term", none)) cdv A outer s H E).env (cxOf (L2.CX P w) P w K mg base ["_law_bag_here", "_law_names_here", "_law_depth"] "_law_term" (defScope s_law_term) (He.fAd K ("_law_term", none)) cdv A outer s H E).xe := po_of rfl
    exact (sOne (sRet (xCall h_law_pattern (hr.mono (by omega)) tk rfl (aCons (xVar (pv 0)) (aCons (xVar (pv 1)) (aCons (xNew (nLst aNil)) (aCons (xVar (pv 2)) aNil))))))))
def m_law_spelled : Nat → DFn
  | 0 => fun _ _ _ => False
  | n + 1 => dFn 3 1
    (dSeq (dIfS (dTest (dCB rIsi (dCons (dVar 0) (dCons (dC (.ty "str")) dNil)))) (dRet (dVar 0)) dNext)
    (dSeq (dAsg 1 (dLc (dItems (dSl (dVar 0) (dPart (dC (.int 1))) dNoPart)) (tName 2) dYes (dCall (m_law_spelled n) (dCons (dVar 2) dNil)) [2]))
    (dSeq (dIfS (dTest (dOp rEq (dOp rIx (dVar 0) (dC (.int 0))) (dC (.str "pair")))) (dRet (dOp rAdd (dOp rAdd (dOp rAdd (dOp rAdd (dC (.str "(")) (dOp rIx (dVar 1) (dC (.int 0)))) (dC (.str " & "))) (dOp rIx (dVar 1) (dC (.int 1)))) (dC (.str ")")))) dNext)
    (dSeq (dIfS (dAnd (dTest (dOp rEq (dOp rIx (dVar 0) (dC (.int 0))) (dC (.str "box")))) (dTest (dCB rIsi (dCons (dOp rIx (dVar 0) (dC (.int 1))) (dCons (dC (.ty "str")) dNil))))) (dRet (dOp rAdd (dOp rAdd (dOp rAdd (dC (.str "[")) (dOp rIx (dVar 1) (dC (.int 1)))) (dC (.str "]"))) (dOp rIx (dVar 1) (dC (.int 0))))) dNext)
    (dSeq (dIfS (dTest (dOp rEq (dOp rIx (dVar 0) (dC (.int 0))) (dC (.str "box")))) (dRet (dOp rAdd (dOp rAdd (dOp rAdd (dOp rAdd (dC (.str "[")) (dOp rIx (dVar 1) (dC (.int 1)))) (dC (.str "]<"))) (dOp rIx (dVar 1) (dC (.int 0)))) (dC (.str ">")))) dNext)
    (dSeq (dIfS (dTest (dOp rEq (dOp rIx (dVar 0) (dC (.int 0))) (dC (.str "half")))) (dRet (dOp rAdd (dC (.str "half ")) (dOp rIx (dVar 1) (dC (.int 0))))) dNext)
    (dSeq (dIfS (dTest (dOp rEq (dOp rIx (dVar 0) (dC (.int 0))) (dC (.str "shut")))) (dRet (dOp rAdd (dOp rAdd (dOp rAdd (dC (.str "{")) (dOp rIx (dVar 1) (dC (.int 1)))) (dC (.str "}"))) (dOp rIx (dVar 1) (dC (.int 0))))) dNext)
    (dSeq (dIfS (dTest (dOp rEq (dOp rIx (dVar 0) (dC (.int 0))) (dC (.str "mark")))) (dRet (dOp rAdd (dOp rAdd (dOp rAdd (dOp rAdd (dC (.str "(")) (dOp rIx (dVar 1) (dC (.int 1)))) (dC (.str "!"))) (dOp rIx (dVar 1) (dC (.int 0)))) (dC (.str ")")))) dNext)
    (dRet (dOp rAdd (dOp rAdd (dC (.str "mix(")) (dOp rIx (dVar 1) (dC (.int 0)))) (dC (.str ")"))))))))))))
theorem has_law_spelled (T : Top w K mg) : ∀ n : Nat, Has P w K mg base (He.ga K) "_law_spelled" (1 + 1 * n) (m_law_spelled n)
  | 0 => by
    obtain ⟨fd, D⟩ := T.d_law_spelled
    exact has_false (ps := ["_law_term_here"]) D T.g_law_spelled (D.bindsN fun _ _ _ _ _ _ us hl => match us, hl with | [_], _ => rfl)
  | n + 1 => by
    obtain ⟨fd, D⟩ := T.d_law_spelled
    have h_law_spelled := has_law_spelled T n
    exact Has.mono (has_of (k := 1 + 1 * n) D T.g_law_spelled sc_law_spelled rfl rfl (D.bindsN fun _ _ _ _ _ _ us hl => match us, hl with | [_], _ => rfl)
    (fun cdv A outer s H E B O hr => by
    have tk : Takes (cxOf (L2.CX P w) P w K mg base ["_law_term_here", "_law_words", "_law_part"] "_law_spelled" (defScope s_law_spelled) (He.fAd K ("_law_spelled", none)) cdv A outer s H E) (fun cls d _ H => E cls d H) := takes_of rfl rfl rfl rfl
    have po : PassesOwn (model P w) (cxOf (L2.CX P w) P w K mg base ["_law_term_here", "_law_words", "_law_part"] "_law_spelled" (defScope s_law_spelled) (He.fAd K ("_law_spelled", none)) cdv A outer s H E).A (cxOf (L2.CX P w) P w K mg base ["_law_term_here", "_law_words", "_law_part"] "_law_spelled" (defScope s_law_spelled) (He.fAd K ("_law_spelled", none)) cdv A outer s H E).env (cxOf (L2.CX P w) P w K mg base ["_law_term_here", "_law_words", "_law_part"] "_law_spelled" (defScope s_law_spelled) (He.fAd K ("_law_spelled", none)) cdv A outer s H E).xe := po_of rfl
    exact (sCons (sIf (yVal (xCallB cIsi rfl T.n_isinstance (by decide +kernel) (aCons (xVar (pv 0)) (aCons (xTy rfl T.n_str (by decide +kernel)) aNil)))) (sOne (sRet (xVar (pv 0)))) sNil)
      (sCons (sLcSet (i := 1) rfl sc_law_spelled.nd rfl rfl (sw_true rfl rfl rfl (by decide +kernel)) (blkOk_by (own := [("_law_part", 2)]) (by kernel_rfl)) (iSeq (xSl (xVar (pv 0)) (oSome xInt) oNone)) (fun _ _ _ _ _ _ => (gName1 (pg_name (i := 2) sc_law_spelled.nd rfl (by first | exact Or.inl rfl | exact Or.inr rfl)) (by decide))) (fun _ _ _ _ _ _ => tYesD) (fun _ _ _ _ _ _ => (xCall h_law_spelled (hr.mono (by omega)) takes0 rfl (aCons (xVar (pv 2)) aNil))))
      (sCons (sIf (yCmpD (oEq (hu64 hr)) (xIx (hu65 hr) (xVar (pv 0)) xInt) (xStr (okS_by (by decide +kernel)))) (sOne (sRet (xOpD oAdd (xOpD oAdd (xOpD oAdd (xOpD oAdd (xStr (okS_by (by decide +kernel))) (xIx (hu65 hr) (xVar (pv 1)) xInt)) (xStr (okS_by (by decide +kernel)))) (xIx (hu65 hr) (xVar (pv 1)) xInt)) (xStr (okS_by (by decide +kernel)))))) sNil)
      (sCons (sIf (yW (wAnd (yCmpD (oEq (hu64 hr)) (xIx (hu65 hr) (xVar (pv 0)) xInt) (xStr (okS_by (by decide +kernel)))) (wAnd1 (yVal (xCallB cIsi rfl T.n_isinstance (by decide +kernel) (aCons (xIx (hu65 hr) (xVar (pv 0)) xInt) (aCons (xTy rfl T.n_str (by decide +kernel)) aNil))))))) (sOne (sRet (xOpD oAdd (xOpD oAdd (xOpD oAdd (xStr (okS_by (by decide +kernel))) (xIx (hu65 hr) (xVar (pv 1)) xInt)) (xStr (okS_by (by decide +kernel)))) (xIx (hu65 hr) (xVar (pv 1)) xInt)))) sNil)
      (sCons (sIf (yCmpD (oEq (hu64 hr)) (xIx (hu65 hr) (xVar (pv 0)) xInt) (xStr (okS_by (by decide +kernel)))) (sOne (sRet (xOpD oAdd (xOpD oAdd (xOpD oAdd (xOpD oAdd (xStr (okS_by (by decide +kernel))) (xIx (hu65 hr) (xVar (pv 1)) xInt)) (xStr (okS_by (by decide +kernel)))) (xIx (hu65 hr) (xVar (pv 1)) xInt)) (xStr (okS_by (by decide +kernel)))))) sNil)
      (sCons (sIf (yCmpD (oEq (hu64 hr)) (xIx (hu65 hr) (xVar (pv 0)) xInt) (xStr (okS_by (by decide +kernel)))) (sOne (sRet (xOpD oAdd (xStr (okS_by (by decide +kernel))) (xIx (hu65 hr) (xVar (pv 1)) xInt)))) sNil)
      (sCons (sIf (yCmpD (oEq (hu64 hr)) (xIx (hu65 hr) (xVar (pv 0)) xInt) (xStr (okS_by (by decide +kernel)))) (sOne (sRet (xOpD oAdd (xOpD oAdd (xOpD oAdd (xStr (okS_by (by decide +kernel))) (xIx (hu65 hr) (xVar (pv 1)) xInt)) (xStr (okS_by (by decide +kernel)))) (xIx (hu65 hr) (xVar (pv 1)) xInt)))) sNil)
      (sCons (sIf (yCmpD (oEq (hu64 hr)) (xIx (hu65 hr) (xVar (pv 0)) xInt) (xStr (okS_by (by decide +kernel)))) (sOne (sRet (xOpD oAdd (xOpD oAdd (xOpD oAdd (xOpD oAdd (xStr (okS_by (by decide +kernel))) (xIx (hu65 hr) (xVar (pv 1)) xInt)) (xStr (okS_by (by decide +kernel)))) (xIx (hu65 hr) (xVar (pv 1)) xInt)) (xStr (okS_by (by decide +kernel)))))) sNil)
      (sOne (sRet (xOpD oAdd (xOpD oAdd (xStr (okS_by (by decide +kernel))) (xIx (hu65 hr) (xVar (pv 1)) xInt)) (xStr (okS_by (by decide +kernel)))))))))))))))) (by omega)
def m_law_wide : DFn := dFn 6 2
    (dSeq (dAsg 2 (dLc (dRng1 (dCons (dVar 1) dNil)) (tName 5) dYes (dOp rIx (dVar 0) (dOp rMod (dCB rInt (dCons (dVar 5) dNil)) (dCB rLen (dCons (dVar 0) dNil)))) [5]))
    (dSeq (dFor (dRng1 (dCons (dC (.int 7)) dNil)) (tName 3) (dIfS (dTest (dOp rGt (dCB rLen (dCons (dVar 2) dNil)) (dC (.int 1)))) (dSeq (dAsg 4 (dLc (dRng1 (dCons (dOp rFd (dCB rLen (dCons (dVar 2) dNil)) (dC (.int 2))) dNil)) (tName 5) dYes (dTup (dCons (dC (.str "pair")) (dCons (dOp rIx (dVar 2) (dOp rMul (dC (.int 2)) (dVar 5))) (dCons (dOp rIx (dVar 2) (dOp rAdd (dOp rMul (dC (.int 2)) (dVar 5)) (dC (.int 1)))) dNil)))) [5]))
    (dAsg 2 (dOp rAdd (dVar 4) (dSl (dVar 2) (dPart (dOp rMul (dC (.int 2)) (dOp rFd (dCB rLen (dCons (dVar 2) dNil)) (dC (.int 2))))) dNoPart)))) dNext))
    (dRet (dOp rIx (dVar 2) (dC (.int 0))))))
theorem has_law_wide (T : Top w K mg) : Has P w K mg base (He.ga K) "_law_wide" 1 m_law_wide := by
  obtain ⟨fd, D⟩ := T.d_law_wide
  exact has_of (k := 0) D T.g_law_wide sc_law_wide rfl rfl (D.bindsN fun _ _ _ _ _ _ us hl => match us, hl with | [_, _], _ => rfl)
    (fun cdv A outer s H E B O hr => by
    have tk : Takes (cxOf (L2.CX P w) P w K mg base ["_law_names_here", "_law_many", "_law_row", "_law_turn", "_law_longer", "_law_k"] "_law_wide" (defScope s_law_wide) (He.fAd K ("_law_wide", none)) cdv A outer s H E) (fun cls d _ H => E cls d H) := takes_of rfl rfl rfl rfl
    have po : PassesOwn (model P w) (cxOf (L2.CX P w) P w K mg base ["_law_names_here", "_law_many", "_law_row", "_law_turn", "_law_longer", "_law_k"] "_law_wide" (defScope s_law_wide) (He.fAd K ("_law_wide", none)) cdv A outer s H E).A (cxOf (L2.CX P w) P w K mg base ["_law_names_here", "_law_many", "_law_row", "_law_turn", "_law_longer", "_law_k"] "_law_wide" (defScope s_law_wide) (He.fAd K ("_law_wide", none)) cdv A outer s H E).env (cxOf (L2.CX P w) P w K mg base ["_law_names_here", "_law_many", "_law_row", "_law_turn", "_law_longer", "_law_k"] "_law_wide" (defScope s_law_wide) (He.fAd K ("_law_wide", none)) cdv A outer s H E).xe := po_of rfl
    exact (sCons (sSet (i := 2) sc_law_wide.nd rfl (by first | exact Or.inl rfl | exact Or.inr rfl) (xNew (nLc rfl sc_law_wide.nd (blkOk_by (own := [("_law_k", 5)]) (by kernel_rfl)) (iRange1 rfl T.n_range (aCons (xVar (pv 1)) aNil)) (fun _ _ _ _ _ _ => (gName1 (pg_name (i := 5) sc_law_wide.nd rfl (by first | exact Or.inl rfl | exact Or.inr rfl)) (by decide))) (fun _ _ _ _ _ _ => tYesD) (fun _ _ _ _ _ _ => (xIx (hu65 hr) (xVar (pv 0)) (xOpD oMod (xCallTy cInt rfl T.n_int (by decide +kernel) (aCons (xVar (pv 5)) aNil)) (xCallB cLen rfl T.n_len (by decide +kernel) (aCons (xVar (pv 0)) aNil))))))))
      (sCons (sFor (vs := [3]) po rfl (iRange1 rfl T.n_range (aCons xInt aNil)) (fun _ => (gName1 (pg_name (i := 3) sc_law_wide.nd rfl (by first | exact Or.inl rfl | exact Or.inr rfl)) (by decide))) (fun _ => (sOne (sIf (yCmpD oGt (xCallB cLen rfl T.n_len (by decide +kernel) (aCons (xVar (pv 2)) aNil)) xInt) (sCons (sLcSet (i := 4) rfl sc_law_wide.nd rfl rfl (sw_true rfl rfl rfl (by decide +kernel)) (blkOk_by (own := [("_law_k", 5)]) (by kernel_rfl)) (iRange1 rfl T.n_range (aCons (xOpD oFd (xCallB cLen rfl T.n_len (by decide +kernel) (aCons (xVar (pv 2)) aNil)) xInt) aNil)) (fun _ _ _ _ _ _ => (gName1 (pg_name (i := 5) sc_law_wide.nd rfl (by first | exact Or.inl rfl | exact Or.inr rfl)) (by decide))) (fun _ _ _ _ _ _ => tYesD) (fun _ _ _ _ _ _ => (xTup (aCons (xStr (okS_by (by decide +kernel))) (aCons (xIx (hu65 hr) (xVar (pv 2)) (xOpD oMul xInt (xVar (pv 5)))) (aCons (xIx (hu65 hr) (xVar (pv 2)) (xOpD oAdd (xOpD oMul xInt (xVar (pv 5))) xInt)) aNil))))))
      (sOne (sSet (i := 2) sc_law_wide.nd rfl (by first | exact Or.inl rfl | exact Or.inr rfl) (xOpD oAdd (xVar (pv 4)) (xSl (xVar (pv 2)) (oSome (xOpD oMul xInt (xOpD oFd (xCallB cLen rfl T.n_len (by decide +kernel) (aCons (xVar (pv 2)) aNil)) xInt))) oNone))))) sNil))))
      (sOne (sRet (xIx (hu65 hr) (xVar (pv 2)) xInt))))))
def m_law_nested : DFn := dFn 7 4
    (dSeq (dFor (dRng1 (dCons (dVar 3) dNil)) (tName 4) (dSeq (dAsg 5 (dCall m_law_pick (dCons (dVar 0) (dCons (dVar 1) dNil))))
    (dSeq (dAsg 6 (dLst (dCons (dTup (dCons (dC (.str "mix")) (dCons (dVar 2) dNil))) (dCons (dTup (dCons (dC (.str "box")) (dCons (dVar 5) (dCons (dVar 2) dNil)))) (dCons (dTup (dCons (dC (.str "mark")) (dCons (dVar 5) (dCons (dVar 2) dNil)))) (dCons (dTup (dCons (dC (.str "shut")) (dCons (dVar 5) (dCons (dVar 2) dNil)))) dNil))))))
    (dAsg 2 (dCall m_law_pick (dCons (dVar 0) (dCons (dVar 6) dNil)))))))
    (dRet (dVar 2)))
theorem has_law_nested (T : Top w K mg) : Has P w K mg base (He.ga K) "_law_nested" 4 m_law_nested := by
  obtain ⟨fd, D⟩ := T.d_law_nested
  have h_law_pick := has_law_pick (P := P) (base := base) T
  exact has_of (k := 3) D T.g_law_nested sc_law_nested rfl rfl (D.bindsN fun _ _ _ _ _ _ us hl => match us, hl with | [_, _, _, _], _ => rfl)
    (fun cdv A outer s H E B O hr => by
    have tk : Takes (cxOf (L2.CX P w) P w K mg base ["_law_bag_here", "_law_names_here", "_law_term_here", "_law_many", "_law_turn", "_law_name", "_law_inner"] "_law_nested" (defScope s_law_nested) (He.fAd K ("_law_nested", none)) cdv A outer s H E) (fun cls d _ H => E cls d H) := takes_of rfl rfl rfl rfl
    have po : PassesOwn (model P w) (cxOf (L2.CX P w) P w K mg base ["_law_bag_here", "_law_names_here", "_law_term_here", "_law_many", "_law_turn", "_law_name", "_law_inner"] "_law_nested" (defScope s_law_nested) (He.fAd K ("_law_nested", none)) cdv A outer s H E).A (cxOf (L2.CX P w) P w K mg base ["_law_bag_here", "_law_names_here", "_law_term_here", "_law_many", "_law_turn", "_law_name", "_law_inner"] "_law_nested" (defScope s_law_nested) (He.fAd K ("_law_nested", none)) cdv A outer s H E).env (cxOf (L2.CX P w) P w K mg base ["_law_bag_here", "_law_names_here", "_law_term_here", "_law_many", "_law_turn", "_law_name", "_law_inner"] "_law_nested" (defScope s_law_nested) (He.fAd K ("_law_nested", none)) cdv A outer s H E).xe := po_of rfl
    exact (sCons (sFor (vs := [4]) po rfl (iRange1 rfl T.n_range (aCons (xVar (pv 3)) aNil)) (fun _ => (gName1 (pg_name (i := 4) sc_law_nested.nd rfl (by first | exact Or.inl rfl | exact Or.inr rfl)) (by decide))) (fun _ => (sCons (sSet (i := 5) sc_law_nested.nd rfl (by first | exact Or.inl rfl | exact Or.inr rfl) (xCall h_law_pick (hr.mono (by omega)) tk rfl (aCons (xVar (pv 0)) (aCons (xVar (pv 1)) aNil))))
      (sCons (sSet (i := 6) sc_law_nested.nd rfl (by first | exact Or.inl rfl | exact Or.inr rfl) (xNew (nLst (aCons (xTup (aCons (xStr (okS_by (by decide +kernel))) (aCons (xVar (pv 2)) aNil))) (aCons (xTup (aCons (xStr (okS_by (by decide +kernel))) (aCons (xVar (pv 5)) (aCons (xVar (pv 2)) aNil)))) (aCons (xTup (aCons (xStr (okS_by (by decide +kernel))) (aCons (xVar (pv 5)) (aCons (xVar (pv 2)) aNil)))) (aCons (xTup (aCons (xStr (okS_by (by decide +kernel))) (aCons (xVar (pv 5)) (aCons (xVar (pv 2)) aNil)))) aNil)))))))
      (sOne (sSet (i := 2) sc_law_nested.nd rfl (by first | exact Or.inl rfl | exact Or.inr rfl) (xCall h_law_pick (hr.mono (by omega)) tk rfl (aCons (xVar (pv 0)) (aCons (xVar (pv 6)) aNil)))))))))
      (sOne (sRet (xVar (pv 2))))))
def m_law_right : DFn := dFn 3 1
    (dSeq (dAsg 1 (dCall (m_law_spelled 14) (dCons (dVar 0) dNil)))
    (dSeq (dFor (dRng1 (dCons (dC (.int 2)) dNil)) (tName 2) (dIfS (dOr (dNot (dTest (dCall (m_law_same 20) (dCons (dCall m_worded (dCons (dVar 0) dNil)) (dCons (dVar 1) dNil))))) (dNot (dTest (dCall (m_law_same 20) (dCons (dCall m_read_term (dCons (dVar 1) dNil)) (dCons (dVar 0) dNil)))))) (dRet (dC (.bl false))) dNext))
    (dRet (dC (.bl true)))))
theorem has_law_right (T : Top w K mg) : Has P w K mg base (He.ga K) "_law_right" 31 m_law_right := by
  obtain ⟨fd, D⟩ := T.d_law_right
  have h_law_spelled := has_law_spelled (P := P) (base := base) T 14
  have h_law_same := has_law_same (P := P) (base := base) T 20
  have h_worded := has_worded (P := P) (base := base) T
  have h_read_term := has_read_term (P := P) (base := base) T
  exact has_of (k := 30) D T.g_law_right sc_law_right rfl rfl (D.bindsN fun _ _ _ _ _ _ us hl => match us, hl with | [_], _ => rfl)
    (fun cdv A outer s H E B O hr => by
    have tk : Takes (cxOf (L2.CX P w) P w K mg base ["_law_term_here", "_law_text", "_law_turn"] "_law_right" (defScope s_law_right) (He.fAd K ("_law_right", none)) cdv A outer s H E) (fun cls d _ H => E cls d H) := takes_of rfl rfl rfl rfl
    have po : PassesOwn (model P w) (cxOf (L2.CX P w) P w K mg base ["_law_term_here", "_law_text", "_law_turn"] "_law_right" (defScope s_law_right) (He.fAd K ("_law_right", none)) cdv A outer s H E).A (cxOf (L2.CX P w) P w K mg base ["_law_term_here", "_law_text", "_law_turn"] "_law_right" (defScope s_law_right) (He.fAd K ("_law_right", none)) cdv A outer s H E).env (cxOf (L2.CX P w) P w K mg base ["_law_term_here", "_law_text", "_law_turn"] "_law_right" (defScope s_law_right) (He.fAd K ("_law_right", none)) cdv A outer s H E).xe := po_of rfl
    exact (sCons (sSet (i := 1) sc_law_right.nd rfl (by first | exact Or.inl rfl | exact Or.inr rfl) (xCall h_law_spelled (hr.mono (by omega)) tk rfl (aCons (xVar (pv 0)) aNil)))
      (sCons (sFor (vs := [2]) po rfl (iRange1 rfl T.n_range (aCons xInt aNil)) (fun _ => (gName1 (pg_name (i := 2) sc_law_right.nd rfl (by first | exact Or.inl rfl | exact Or.inr rfl)) (by decide))) (fun _ => (sOne (sIf (yW (wOr (yNot (yVal (xCall h_law_same (hr.mono (by omega)) tk rfl (aCons (xCall h_worded (hr.mono (by omega)) tk rfl (aCons (xVar (pv 0)) aNil)) (aCons (xVar (pv 1)) aNil))))) (wOr1 (yNot (yVal (xCall h_law_same (hr.mono (by omega)) tk rfl (aCons (xCall h_read_term (hr.mono (by omega)) tk rfl (aCons (xVar (pv 1)) aNil)) (aCons (xVar (pv 0)) aNil)))))))) (sOne (sRet xBl)) sNil))))
      (sOne (sRet xBl)))))
def m_law : DS := (dSeq (dAsg 2 (dOp rAdd (dCall m_law_names (dCons (dVar 1) (dCons (dC (.int 3)) dNil))) (dLst (dCons (dCall m_law_pick (dCons (dVar 1) (dCons (dLst (dCons (dC (.str "half")) (dCons (dC (.str "mix")) (dCons (dC (.str "a")) dNil)))) dNil))) dNil))))
    (dSeq (dOwn 3 (dLst (dCons (dCall m_law_term (dCons (dVar 1) (dCons (dVar 2) (dCons (dC (.int 4)) dNil)))) (dCons (dCall m_law_term (dCons (dVar 1) (dCons (dVar 2) (dCons (dC (.int 4)) dNil)))) (dCons (dCall m_law_pick (dCons (dVar 1) (dCons (dVar 2) dNil))) dNil)))))
    (dSeq (dAppend 3 (dCall m_law_wide (dCons (dVar 2) (dCons (dOp rAdd (dC (.int 20)) (dCall m_draw (dCons (dVar 1) (dCons (dC (.int 21)) dNil)))) dNil))))
    (dSeq (dAppend 3 (dCall m_law_nested (dCons (dVar 1) (dCons (dVar 2) (dCons (dCall m_law_term (dCons (dVar 1) (dCons (dVar 2) (dCons (dC (.int 3)) dNil)))) (dCons (dC (.int 9)) dNil))))))
    (dSeq (dAppend 3 (dTup (dCons (dC (.str "box")) (dCons (dCall m_law_term (dCons (dVar 1) (dCons (dVar 2) (dCons (dC (.int 3)) dNil)))) (dCons (dCall m_law_term (dCons (dVar 1) (dCons (dVar 2) (dCons (dC (.int 3)) dNil)))) dNil)))))
    (dSeq (dAppend 3 (dTup (dCons (dC (.str "pair")) (dCons (dTup (dCons (dC (.str "half")) (dCons (dCall m_law_pick (dCons (dVar 1) (dCons (dVar 2) dNil))) dNil))) (dCons (dCall m_law_pick (dCons (dVar 1) (dCons (dVar 2) dNil))) dNil)))))
    (dSeq (dAppend 3 (dTup (dCons (dC (.str "mark")) (dCons (dCall m_law_pick (dCons (dVar 1) (dCons (dVar 2) dNil))) (dCons (dTup (dCons (dC (.str "half")) (dCons (dCall m_law_pick (dCons (dVar 1) (dCons (dVar 2) dNil))) dNil))) dNil)))))
    (dFrz 3 (dRet (dOp rEq (dCB rLen (dCons (dLc (dItems (dVar 3)) (tName 4) (dNot (dTest (dCall m_law_right (dCons (dVar 4) dNil)))) (dVar 4) [4]) dNil)) (dC (.int 0))))))))))))
theorem ok_bag (T : Top w K mg) : ∃ fd, FnOk P w K mg base (L2.CX P w) 1 (He.fAd K ("_law_bag", none)) fd ["_law_script"] (spBag K) ∧ Binds K fd ["_law_script"] [] ∧ PySem.W.keepIn K (.ref (He.fAd K ("_law_bag", none))) = true := by
  obtain ⟨fd, D⟩ := T.d_law_bag
  refine ⟨fd, D.ok (k := 0) sc_law_bag (fun vs H Q E h => ?_) (fun cdv A outer s H vs Q E hr h => ?_), D.bindsN fun _ _ _ _ _ _ us hl => match us, hl with | [_], _ => rfl, D.kp⟩
  · obtain ⟨a, ns, rfl, _⟩ := h
    rfl
  obtain ⟨a, ns, rfl, hS, kq⟩ := h
  have cut : ∃ ns' : List Int, cutV (ns.map V.int) none (some 63) = ns'.map V.int := ⟨_, by unfold cutV; rw [← List.map_drop, ← List.map_take]⟩
  obtain ⟨ns', hcut⟩ := cut
  refine ⟨_, PSs.nox (pss_cons (ps_set (i := 1) sc_law_bag.nd rfl (Or.inl rfl) pe_int)
    (pss_cons (ps_for PassesOwn.never rfl (pi_list (pe_slice sl_list (pv 0) po_none (po_some pe_int))) (pg_name (i := 2) sc_law_bag.nd rfl (Or.inl rfl))
      (pss_one (ps_set (i := 1) sc_law_bag.nd rfl (Or.inl rfl) (pe_op op_mod (pe_callTy call_int1 rfl T.n_int boot_int (pa_cons (pe_op op_add (pe_op op_add (pe_op op_mul (pv 1) pe_int) (pv 2)) pe_int) pa_nil)) pe_int))))
    (pss_one (ps_ret (pe_lst (pa_cons (pe_callTy call_list_of rfl T.n_list (by decide +kernel) (pa_cons (pe_slice sl_list (pv 0) po_none (po_some pe_int)) pa_nil)) (pa_cons pe_int (pa_cons pe_int (pa_cons pe_int (pa_cons (pv 1) pa_nil)))))))))), ?_⟩
  refine ⟨_, rfl, 63, rfl, a, _, rfl, hS, fun p hp => ⟨p, rfl, ⟨_, SqL.of upd_same⟩, ?_⟩⟩
  rw [hcut]
  have sp : Same H (upd H p (.lst (ns'.map V.int))) := fun b o e => by rw [upd_ne (ne_of_none e hp)]; exact e
  refine for_list (K := K) (a := p) (xs := ns'.map V.int) (fun i σ H' => ∃ (c : Option V) (sd : Int), σ = [some (.ref a), some (.int sd), c] ∧ H' = upd H p (.lst (ns'.map V.int)) ∧ 0 ≤ sd ∧ sd < 2147483629) ⟨none, 37, rfl, rfl, by decide, by decide⟩ (fun i σ H' _ ⟨_, _, _, e, _⟩ => by rw [e]; exact SqL.of upd_same) ?_ ?_
  · rintro i y σ H' hi ⟨c, sd, rfl, rfl, h1, h2⟩
    obtain ⟨z, rfl⟩ : ∃ z, y = V.int z := by
      rw [List.getElem?_map] at hi
      cases e : ns'[i]? with
      | none => rw [e] at hi; cases hi
      | some z => rw [e] at hi; exact ⟨z, (Option.some.inj hi).symm⟩
    exact ⟨_, rfl, _, _, rfl, rfl, .inr ⟨by decide, by decide⟩, _, rfl, _, _, rfl, rfl, _, _, rfl, rfl, .inl ⟨_, rfl, _, _, rfl, rfl, (by show (0 : Int) < _; decide), ⟨some (.int z), _, rfl, rfl, Int.emod_nonneg _ (by decide), Int.emod_lt_of_pos _ (by decide)⟩⟩⟩
  · rintro σ H' ⟨c, sd, rfl, rfl, h1, h2⟩
    refine ⟨_, rfl, 63, rfl, a, _, rfl, sp.seq hS, fun p2 hp2 => ⟨p2, _, rfl, .inl (SqL.of upd_same), fun l hl => ⟨_, rfl, by show 5 ≤ sizeLine; decide, fun b hb => ?_⟩⟩⟩
    rw [hcut] at hl hb ⊢
    have e1 : ∀ c o, H c = some o → (upd (upd (upd (upd H p (.lst (ns'.map V.int))) p2 (.lst (ns'.map V.int))) l (.lst (ns'.map V.int))) b (.lst [.ref l, .int 0, .int 0, .int 0, .int sd])) c = some o := fun c o e => by
      have z1 := sp c o e
      have z2 : (upd (upd H p (.lst (ns'.map V.int))) p2 (.lst (ns'.map V.int))) c = some o := by rw [upd_ne (ne_of_none z1 hp2)]; exact z1
      have z3 : (upd (upd (upd H p (.lst (ns'.map V.int))) p2 (.lst (ns'.map V.int))) l (.lst (ns'.map V.int))) c = some o := by rw [upd_ne (ne_of_none z2 hl)]; exact z2
      rw [upd_ne (ne_of_none z3 hb)]; exact z3
    have nf : ∀ c, (upd (upd (upd (upd H p (.lst (ns'.map V.int))) p2 (.lst (ns'.map V.int))) l (.lst (ns'.map V.int))) b (.lst [.ref l, .int 0, .int 0, .int 0, .int sd])) c = none → H c = none := fun c z => by
      cases q : H c with
      | none => rfl
      | some o => rw [e1 c o q] at z; cases z
    have lb : l ≠ b := ne_of_none (H := upd (upd (upd H p (.lst (ns'.map V.int))) p2 (.lst (ns'.map V.int))) l (.lst (ns'.map V.int))) upd_same hb
    have old : ∀ {G : Hp} {c d : Addr} {o : HO}, (upd G c o) d = none → G d = none := fun {G c d o} z => by
      unfold upd at z
      split at z
      · cases z
      · exact z
    refine kq ⟨b, l⟩ _ e1 (old (old (old hb))) (old (old hl)) ⟨lb, ns', 0, 0, 0, sd, upd_same, ?_, by decide, by decide, by decide, h1, h2⟩
    rw [upd_ne lb]
    exact upd_same
/-- what the law asks behind its bag -/
def LawOk : Prop := m_law { nx := fun _ => False, rt := fun d => d = .bl true, bk := fun _ => False, ct := fun _ => False, ex := fun _ _ => False } (none :: some (.val .bag) :: List.replicate 3 none)
def spLaw (K : PySem.W.Frag) : Sp := fun vs H Q _ => ∃ (a : Addr) (ns : List Int), vs = [.ref a] ∧ SqL K H a (ns.map V.int) ∧ ∀ H', Q (.bl true) H'
theorem ok_law (T : Top w K mg) (ok : LawOk) {fd : FuncData} (DF : FunD K "law" "law" (defArgs s_law) (defBody s_law) (defScope s_law) [] [] (He.fAd K ("law", none)) fd) : FnOk P w K mg base CX0 (32 + 1) (He.fAd K ("law", none)) fd ["_law_script"] (spLaw K) ∧ ∀ (s : Shared) (v : Value), BindsTo s fd ⟨[v], []⟩ [("_law_script", v)] := by
  obtain ⟨fb, GB, bB, kB⟩ := ok_bag (P := P) (w := w) (base := base) T
  have h_law_names := has_law_names (P := P) (base := base) T
  have h_law_pick := has_law_pick (P := P) (base := base) T
  have h_law_term := has_law_term (P := P) (base := base) T
  have h_law_wide := has_law_wide (P := P) (base := base) T
  have h_law_draw := has_draw (P := P) (base := base) T
  have h_law_nested := has_law_nested (P := P) (base := base) T
  have h_law_right := has_law_right (P := P) (base := base) T
  have b := FunD.bindsA (ps := ["_law_script"]) DF fun _ _ _ _ _ _ us hl => match us, hl with | [_], _ => rfl
  refine ⟨DF.ok (k := 32) sc_law (fun vs H Q E h => ?_) (fun cdv A outer s H vs Q E hr h => ?_), fun s v => b s [v] rfl⟩
  · obtain ⟨a, ns, rfl, _⟩ := h
    rfl
  obtain ⟨a, ns, rfl, hS, kq⟩ := h
  have body : ∀ (B : Bg) (H1 : Hp), PSs (cxOf CX0 P w K mg base ["_law_script", "_law_bag_here", "_law_names_here", "_law_terms", "_law_term_here"] "law" (defScope s_law) (He.fAd K ("law", none)) cdv A outer s H E) ((defBody s_law).tail) (upS ⟨B, fun c => c = B.b ∨ c = B.l, K, H1, []⟩ (He.ga K) WF m_law) := fun B H1 => by
    have tk : Takes (cxOf CX0 P w K mg base ["_law_script", "_law_bag_here", "_law_names_here", "_law_terms", "_law_term_here"] "law" (defScope s_law) (He.fAd K ("law", none)) cdv A outer s H E) WF := takes0
    have po : PassesOwn (model P w) (cxOf CX0 P w K mg base ["_law_script", "_law_bag_here", "_law_names_here", "_law_terms", "_law_term_here"] "law" (defScope s_law) (He.fAd K ("law", none)) cdv A outer s H E).A (cxOf CX0 P w K mg base ["_law_script", "_law_bag_here", "_law_names_here", "_law_terms", "_law_term_here"] "law" (defScope s_law) (He.fAd K ("law", none)) cdv A outer s H E).env (cxOf CX0 P w K mg base ["_law_script", "_law_bag_here", "_law_names_here", "_law_terms", "_law_term_here"] "law" (defScope s_law) (He.fAd K ("law", none)) cdv A outer s H E).xe := po_of rfl
    exact (sCons (sSet (i := 2) sc_law.nd rfl (by first | exact Or.inl rfl | exact Or.inr rfl) (xOpD oAdd (xCall h_law_names (hr.mono (by omega)) tk rfl (aCons (xVar (pv 1)) (aCons xInt aNil))) (xNew (nLst (aCons (xCall h_law_pick (hr.mono (by omega)) tk rfl (aCons (xVar (pv 1)) (aCons (xNew (nLst (aCons (xStr (okS_by (by decide +kernel))) (aCons (xStr (okS_by (by decide +kernel))) (aCons (xStr (okS_by (by decide +kernel))) aNil))))) aNil))) aNil)))))
      (sCons (sOwn (i := 3) sc_law.nd rfl (by first | exact Or.inl rfl | exact Or.inr rfl) (nLst (aCons (xCall h_law_term (hr.mono (by omega)) tk rfl (aCons (xVar (pv 1)) (aCons (xVar (pv 2)) (aCons xInt aNil)))) (aCons (xCall h_law_term (hr.mono (by omega)) tk rfl (aCons (xVar (pv 1)) (aCons (xVar (pv 2)) (aCons xInt aNil)))) (aCons (xCall h_law_pick (hr.mono (by omega)) tk rfl (aCons (xVar (pv 1)) (aCons (xVar (pv 2)) aNil))) aNil)))))
      (sCons (sAppendX (pv 3) (xCall h_law_wide (hr.mono (by omega)) tk rfl (aCons (xVar (pv 2)) (aCons (xOpD oAdd xInt (xCall h_law_draw (hr.mono (by omega)) tk rfl (aCons (xVar (pv 1)) (aCons xInt aNil)))) aNil))))
      (sCons (sAppendX (pv 3) (xCall h_law_nested (hr.mono (by omega)) tk rfl (aCons (xVar (pv 1)) (aCons (xVar (pv 2)) (aCons (xCall h_law_term (hr.mono (by omega)) tk rfl (aCons (xVar (pv 1)) (aCons (xVar (pv 2)) (aCons xInt aNil)))) (aCons xInt aNil))))))
      (sCons (sAppendX (pv 3) (xTup (aCons (xStr (okS_by (by decide +kernel))) (aCons (xCall h_law_term (hr.mono (by omega)) tk rfl (aCons (xVar (pv 1)) (aCons (xVar (pv 2)) (aCons xInt aNil)))) (aCons (xCall h_law_term (hr.mono (by omega)) tk rfl (aCons (xVar (pv 1)) (aCons (xVar (pv 2)) (aCons xInt aNil)))) aNil)))))
      (sCons (sAppendX (pv 3) (xTup (aCons (xStr (okS_by (by decide +kernel))) (aCons (xTup (aCons (xStr (okS_by (by decide +kernel))) (aCons (xCall h_law_pick (hr.mono (by omega)) tk rfl (aCons (xVar (pv 1)) (aCons (xVar (pv 2)) aNil))) aNil))) (aCons (xCall h_law_pick (hr.mono (by omega)) tk rfl (aCons (xVar (pv 1)) (aCons (xVar (pv 2)) aNil))) aNil)))))
      (sCons (sAppendX (pv 3) (xTup (aCons (xStr (okS_by (by decide +kernel))) (aCons (xCall h_law_pick (hr.mono (by omega)) tk rfl (aCons (xVar (pv 1)) (aCons (xVar (pv 2)) aNil))) (aCons (xTup (aCons (xStr (okS_by (by decide +kernel))) (aCons (xCall h_law_pick (hr.mono (by omega)) tk rfl (aCons (xVar (pv 1)) (aCons (xVar (pv 2)) aNil))) aNil))) aNil)))))
      (sFrz (i := 3) (sOne (sRet (xCmpD (oEq (hu64 hr)) (xCallB cLen rfl T.n_len (by decide +kernel) (aCons (xNew (nLc rfl sc_law.nd (blkOk_by (own := [("_law_term_here", 4)]) (by kernel_rfl)) (iSeq (xVar (pv 3))) (fun _ _ _ _ _ _ => (gName1 (pg_name (i := 4) sc_law.nd rfl (by first | exact Or.inl rfl | exact Or.inr rfl)) (by decide))) (fun _ _ _ _ _ _ => (tOneD (yNot (yVal (xCall h_law_right (hr.mono (by omega)) takes0 rfl (aCons (xVar (pv 4)) aNil)))))) (fun _ _ _ _ _ _ => (xVar (pv 4))))) aNil)) xInt)))))))))))
  refine ⟨_, pss_cons (ps_set (i := 1) sc_law.nd rfl (by first | exact Or.inl rfl | exact Or.inr rfl) (pe_call GB (hr.mono (by decide)) rfl T.g_law_bag kB bB .nil passL (pa_cons (pv 0) pa_nil))) (pss_ex fun g : Bg × Hp => body g.1 g.2), ?_⟩
  refine ⟨_, rfl, a, ns, rfl, hS, fun B H1 hsame hnb hnl hbag => ⟨(B, H1), _, _, ?_, ok, fun _ h => h.elim, fun d hd v H' _ i => ?_, fun _ h => h.elim, fun _ h => h.elim, fun _ _ h => h.elim⟩⟩
  · have no : ∀ (i : Nat) (d : D), (none :: some (.val .bag) :: List.replicate 3 none : Rho)[i]? ≠ some (some (.own d)) := fun i d h => by
      rcases i with _ | _ | i
      · cases h
      · cases h
      · have h2 : (List.replicate 3 (none : Option Sl))[i]? = some (some (.own d)) := h
        rw [List.getElem?_replicate] at h2
        split at h2 <;> cases h2
    obtain ⟨nlb, ns', i, r, k, sd, e1, e2, z⟩ := id hbag
    refine ⟨Ex.refl _ _, rfl, .inl rfl, .inr rfl, fun c z => ?_, fun i d h => ?_, fun i d h => absurd h (no i d), fun i j d e a h => absurd h (no i d), fun p hp => nomatch hp⟩
    · rcases z with z | z
      · rw [z, e1]; simp
      · rw [z, e2]; simp
    · rcases i with _ | _ | i
      · cases h
      · cases h
        exact ⟨_, rfl, .bag hbag (.inl (.inl rfl))⟩
      · have h2 : (List.replicate 3 (none : Option Sl))[i]? = some (some (.val d)) := h
        rw [List.getElem?_replicate] at h2
        split at h2 <;> cases h2
  · subst hd
    cases i
    exact kq H'
end

end K04
namespace K04
open PySem PyProof.Rows HD
section
variable {Xd : Err → Prop} {Q : D → Prop}
theorem small_mem {c : Nat} : c ∈ ("abcdefghijklmnopqrstuvwxyz" : Str).cps.toList ↔ 97 ≤ c ∧ c ≤ 122 := by
  have e : ("abcdefghijklmnopqrstuvwxyz" : Str).cps.toList = [97, 98, 99, 100, 101, 102, 103, 104, 105, 106, 107, 108, 109, 110, 111, 112, 113, 114, 115, 116, 117, 118, 119, 120, 121, 122] := by kernel_rfl
  rw [e]
  simp only [List.mem_cons, List.not_mem_nil, or_false]
  omega
theorem sp_is_name {s : List Nat} (h : isNm s) (q : Q (.bl true)) : m_is_name [.str (St s)] Xd Q := by
  have h1 := h.1
  have h2 := h.2.1
  have e1 : decide ((1 : Int) ≤ s.length) = true := decide_eq_true (by omega)
  have e2 : decide ((s.length : Int) ≤ 8) = true := decide_eq_true (by omega)
  simp only [e_seq, e_next, e_ret, e_retN, e_if, e_asg, e_own, e_drop, e_c, e_var0, e_varS, e_op, e_test, e_and, e_or, e_not, e_andV, e_orV, e_notV, e_ifE, e_chain, e_nil, e_cons, e_tup, e_lst, e_cb, e_call, e_sl, e_part, e_noPart, e_items, e_rng1, e_lc, e_yes, e_fn, e_rho1, e_rho2, e_rho3, e_rho4, e_isi, e_ints, e_CT, e_lenS, e_lenT, e_lenL, e_addI, e_addS, e_addL, e_int, e_intB, e_ixT, e_ixL, e_ixS, e_at0, e_at1, e_at2, e_slT, e_slL, e_slS, e_tail, e_eqS, e_eqI, e_depS, e_depI, e_isiS, e_isiT, e_isiTT, e_isiTS, e_lcN, e_lcC, e_name, e_repl, e_inT, e_inL, e_inS, e_inTab, e_ixTab, e_is, e_isNot, e_eqv, e_nev, e_starts, D.bl.injEq, D.int.injEq, D.str.injEq, D.tup.injEq, exists_eq_left', exists_eq_left, true_and, and_true, and_self, if_true, if_false, ite_true, ite_false, Bool.false_eq_true, Bool.not_true, Bool.not_false, eq_self, List.set_cons_zero, List.set_cons_succ, List.getElem?_cons_zero, List.getElem?_cons_succ, List.length_cons, List.length_nil, List.replicate_zero, List.map_cons, List.map_nil, List.nil_append, List.cons_append, Nat.reduceAdd, Nat.zero_add, noOwn, wipeR, List.all_cons, List.all_nil, List.any_cons, List.any_nil, Bool.and_true, Bool.or_false, Bool.false_or, Bool.and_self, Bool.xor_false, Bool.false_xor, Bool.true_xor, decide_true, Option.some.injEq, e_itT, e_itL, e_itS, e_pl1, e_pl2, e_ty1, e_ty2, e_ok1, e_ok2, e_min, e_one, e_two, e_three, e_nnT, e_nnS, e_fl1, e_fl2, e_fl3, e_starts, e_st2, t_var_pair, t_var_box, t_var_half, t_var_shut, t_var_mark, t_var_mix, t_pair_var, t_pair_box, t_pair_half, t_pair_shut, t_pair_mark, t_pair_mix, t_box_var, t_box_pair, t_box_half, t_box_shut, t_box_mark, t_box_mix, t_half_var, t_half_pair, t_half_box, t_half_shut, t_half_mark, t_half_mix, t_shut_var, t_shut_pair, t_shut_box, t_shut_half, t_shut_mark, t_shut_mix, t_mark_var, t_mark_pair, t_mark_box, t_mark_half, t_mark_shut, t_mark_mix, t_mix_var, t_mix_pair, t_mix_box, t_mix_half, t_mix_shut, t_mix_mark, e_n2, e_n3, Int.reduceNeg, Bool.or_true, i_str_S, i_str_T, i_str_L, i_str_I, i_int_S, i_int_T, i_int_L, i_int_I, i_bool_S, i_bool_T, i_bool_L, i_bool_I, i_list_S, i_list_T, i_list_L, i_list_I, i_tuple_S, i_tuple_T, i_tuple_L, i_tuple_I, i_dict_S, i_dict_T, i_dict_L, i_dict_I, e_ty_int, e_ty_bool, e_ty_list, e_ty_dict, e_isi2, e_pl3, e_pl4, e_eqB, e_depB, e_ok3, e_r2, e_r3, e_r0, e_for, e_i1, e_p2, e_n0, e_n4, e_ln0, e_ln1, Int.reduceEq, Int.reduceLT, Int.reduceLE, decide_false, Option.isSome_some, Option.isSome_none, Bool.or_self, Bool.true_or, ↓reduceIte, m_is_name, St_len, e1, e2, St_cps]
  refine lc_all (fun _ => .bl true) _ _ (fun d hd S N hS => ?_) ?_ ?_
  · obtain ⟨c, hc, rfl⟩ := List.mem_map.mp hd
    have := decide_eq_true (small_mem.mpr (h.2.2 c hc))
    simp only [e_seq, e_next, e_ret, e_retN, e_if, e_asg, e_own, e_drop, e_c, e_var0, e_varS, e_op, e_test, e_and, e_or, e_not, e_andV, e_orV, e_notV, e_ifE, e_chain, e_nil, e_cons, e_tup, e_lst, e_cb, e_call, e_sl, e_part, e_noPart, e_items, e_rng1, e_lc, e_yes, e_fn, e_rho1, e_rho2, e_rho3, e_rho4, e_isi, e_ints, e_CT, e_lenS, e_lenT, e_lenL, e_addI, e_addS, e_addL, e_int, e_intB, e_ixT, e_ixL, e_ixS, e_at0, e_at1, e_at2, e_slT, e_slL, e_slS, e_tail, e_eqS, e_eqI, e_depS, e_depI, e_isiS, e_isiT, e_isiTT, e_isiTS, e_lcN, e_lcC, e_name, e_repl, e_inT, e_inL, e_inS, e_inTab, e_ixTab, e_is, e_isNot, e_eqv, e_nev, e_starts, D.bl.injEq, D.int.injEq, D.str.injEq, D.tup.injEq, exists_eq_left', exists_eq_left, true_and, and_true, and_self, if_true, if_false, ite_true, ite_false, Bool.false_eq_true, Bool.not_true, Bool.not_false, eq_self, List.set_cons_zero, List.set_cons_succ, List.getElem?_cons_zero, List.getElem?_cons_succ, List.length_cons, List.length_nil, List.replicate_zero, List.map_cons, List.map_nil, List.nil_append, List.cons_append, Nat.reduceAdd, Nat.zero_add, noOwn, wipeR, List.all_cons, List.all_nil, List.any_cons, List.any_nil, Bool.and_true, Bool.or_false, Bool.false_or, Bool.and_self, Bool.xor_false, Bool.false_xor, Bool.true_xor, decide_true, Option.some.injEq, e_itT, e_itL, e_itS, e_pl1, e_pl2, e_ty1, e_ty2, e_ok1, e_ok2, e_min, e_one, e_two, e_three, e_nnT, e_nnS, e_fl1, e_fl2, e_fl3, e_starts, e_st2, t_var_pair, t_var_box, t_var_half, t_var_shut, t_var_mark, t_var_mix, t_pair_var, t_pair_box, t_pair_half, t_pair_shut, t_pair_mark, t_pair_mix, t_box_var, t_box_pair, t_box_half, t_box_shut, t_box_mark, t_box_mix, t_half_var, t_half_pair, t_half_box, t_half_shut, t_half_mark, t_half_mix, t_shut_var, t_shut_pair, t_shut_box, t_shut_half, t_shut_mark, t_shut_mix, t_mark_var, t_mark_pair, t_mark_box, t_mark_half, t_mark_shut, t_mark_mix, t_mix_var, t_mix_pair, t_mix_box, t_mix_half, t_mix_shut, t_mix_mark, e_n2, e_n3, Int.reduceNeg, Bool.or_true, i_str_S, i_str_T, i_str_L, i_str_I, i_int_S, i_int_T, i_int_L, i_int_I, i_bool_S, i_bool_T, i_bool_L, i_bool_I, i_list_S, i_list_T, i_list_L, i_list_I, i_tuple_S, i_tuple_T, i_tuple_L, i_tuple_I, i_dict_S, i_dict_T, i_dict_L, i_dict_I, e_ty_int, e_ty_bool, e_ty_list, e_ty_dict, e_isi2, e_pl3, e_pl4, e_eqB, e_depB, e_ok3, e_r2, e_r3, e_r0, e_for, e_i1, e_p2, e_n0, e_n4, e_ln0, e_ln1, Int.reduceEq, Int.reduceLT, Int.reduceLE, decide_false, Option.isSome_some, Option.isSome_none, Bool.or_self, Bool.true_or, ↓reduceIte, this]
    exact hS
  · simp
    exact Nat.le_trans h2 (by decide)
  · refine ⟨s.map fun _ => true, by simp [Function.comp_def], ?_⟩
    have e : (s.map fun _ => true).all id = true := by simp
    rw [e]
    exact q
theorem sp_is_name_t {xs : List D} (q : Q (.bl false)) : m_is_name [.tup xs] Xd Q := by
  simp only [e_seq, e_next, e_ret, e_retN, e_if, e_asg, e_own, e_drop, e_c, e_var0, e_varS, e_op, e_test, e_and, e_or, e_not, e_andV, e_orV, e_notV, e_ifE, e_chain, e_nil, e_cons, e_tup, e_lst, e_cb, e_call, e_sl, e_part, e_noPart, e_items, e_rng1, e_lc, e_yes, e_fn, e_rho1, e_rho2, e_rho3, e_rho4, e_isi, e_ints, e_CT, e_lenS, e_lenT, e_lenL, e_addI, e_addS, e_addL, e_int, e_intB, e_ixT, e_ixL, e_ixS, e_at0, e_at1, e_at2, e_slT, e_slL, e_slS, e_tail, e_eqS, e_eqI, e_depS, e_depI, e_isiS, e_isiT, e_isiTT, e_isiTS, e_lcN, e_lcC, e_name, e_repl, e_inT, e_inL, e_inS, e_inTab, e_ixTab, e_is, e_isNot, e_eqv, e_nev, e_starts, D.bl.injEq, D.int.injEq, D.str.injEq, D.tup.injEq, exists_eq_left', exists_eq_left, true_and, and_true, and_self, if_true, if_false, ite_true, ite_false, Bool.false_eq_true, Bool.not_true, Bool.not_false, eq_self, List.set_cons_zero, List.set_cons_succ, List.getElem?_cons_zero, List.getElem?_cons_succ, List.length_cons, List.length_nil, List.replicate_zero, List.map_cons, List.map_nil, List.nil_append, List.cons_append, Nat.reduceAdd, Nat.zero_add, noOwn, wipeR, List.all_cons, List.all_nil, List.any_cons, List.any_nil, Bool.and_true, Bool.or_false, Bool.false_or, Bool.and_self, Bool.xor_false, Bool.false_xor, Bool.true_xor, decide_true, Option.some.injEq, e_itT, e_itL, e_itS, e_pl1, e_pl2, e_ty1, e_ty2, e_ok1, e_ok2, e_min, e_one, e_two, e_three, e_nnT, e_nnS, e_fl1, e_fl2, e_fl3, e_starts, e_st2, t_var_pair, t_var_box, t_var_half, t_var_shut, t_var_mark, t_var_mix, t_pair_var, t_pair_box, t_pair_half, t_pair_shut, t_pair_mark, t_pair_mix, t_box_var, t_box_pair, t_box_half, t_box_shut, t_box_mark, t_box_mix, t_half_var, t_half_pair, t_half_box, t_half_shut, t_half_mark, t_half_mix, t_shut_var, t_shut_pair, t_shut_box, t_shut_half, t_shut_mark, t_shut_mix, t_mark_var, t_mark_pair, t_mark_box, t_mark_half, t_mark_shut, t_mark_mix, t_mix_var, t_mix_pair, t_mix_box, t_mix_half, t_mix_shut, t_mix_mark, e_n2, e_n3, Int.reduceNeg, Bool.or_true, i_str_S, i_str_T, i_str_L, i_str_I, i_int_S, i_int_T, i_int_L, i_int_I, i_bool_S, i_bool_T, i_bool_L, i_bool_I, i_list_S, i_list_T, i_list_L, i_list_I, i_tuple_S, i_tuple_T, i_tuple_L, i_tuple_I, i_dict_S, i_dict_T, i_dict_L, i_dict_I, e_ty_int, e_ty_bool, e_ty_list, e_ty_dict, e_isi2, e_pl3, e_pl4, e_eqB, e_depB, e_ok3, e_r2, e_r3, e_r0, e_for, e_i1, e_p2, e_n0, e_n4, e_ln0, e_ln1, Int.reduceEq, Int.reduceLT, Int.reduceLE, decide_false, Option.isSome_some, Option.isSome_none, Bool.or_self, Bool.true_or, ↓reduceIte, m_is_name]
  exact q
theorem sp_is_leaf {s : List Nat} {b : Bool} (h : isNm s) (q : Q (.bl true)) : m_is_leaf [.str (St s), .bl b] Xd Q := by
  simp only [e_seq, e_next, e_ret, e_retN, e_if, e_asg, e_own, e_drop, e_c, e_var0, e_varS, e_op, e_test, e_and, e_or, e_not, e_andV, e_orV, e_notV, e_ifE, e_chain, e_nil, e_cons, e_tup, e_lst, e_cb, e_call, e_sl, e_part, e_noPart, e_items, e_rng1, e_lc, e_yes, e_fn, e_rho1, e_rho2, e_rho3, e_rho4, e_isi, e_ints, e_CT, e_lenS, e_lenT, e_lenL, e_addI, e_addS, e_addL, e_int, e_intB, e_ixT, e_ixL, e_ixS, e_at0, e_at1, e_at2, e_slT, e_slL, e_slS, e_tail, e_eqS, e_eqI, e_depS, e_depI, e_isiS, e_isiT, e_isiTT, e_isiTS, e_lcN, e_lcC, e_name, e_repl, e_inT, e_inL, e_inS, e_inTab, e_ixTab, e_is, e_isNot, e_eqv, e_nev, e_starts, D.bl.injEq, D.int.injEq, D.str.injEq, D.tup.injEq, exists_eq_left', exists_eq_left, true_and, and_true, and_self, if_true, if_false, ite_true, ite_false, Bool.false_eq_true, Bool.not_true, Bool.not_false, eq_self, List.set_cons_zero, List.set_cons_succ, List.getElem?_cons_zero, List.getElem?_cons_succ, List.length_cons, List.length_nil, List.replicate_zero, List.map_cons, List.map_nil, List.nil_append, List.cons_append, Nat.reduceAdd, Nat.zero_add, noOwn, wipeR, List.all_cons, List.all_nil, List.any_cons, List.any_nil, Bool.and_true, Bool.or_false, Bool.false_or, Bool.and_self, Bool.xor_false, Bool.false_xor, Bool.true_xor, decide_true, Option.some.injEq, e_itT, e_itL, e_itS, e_pl1, e_pl2, e_ty1, e_ty2, e_ok1, e_ok2, e_min, e_one, e_two, e_three, e_nnT, e_nnS, e_fl1, e_fl2, e_fl3, e_starts, e_st2, t_var_pair, t_var_box, t_var_half, t_var_shut, t_var_mark, t_var_mix, t_pair_var, t_pair_box, t_pair_half, t_pair_shut, t_pair_mark, t_pair_mix, t_box_var, t_box_pair, t_box_half, t_box_shut, t_box_mark, t_box_mix, t_half_var, t_half_pair, t_half_box, t_half_shut, t_half_mark, t_half_mix, t_shut_var, t_shut_pair, t_shut_box, t_shut_half, t_shut_mark, t_shut_mix, t_mark_var, t_mark_pair, t_mark_box, t_mark_half, t_mark_shut, t_mark_mix, t_mix_var, t_mix_pair, t_mix_box, t_mix_half, t_mix_shut, t_mix_mark, e_n2, e_n3, Int.reduceNeg, Bool.or_true, i_str_S, i_str_T, i_str_L, i_str_I, i_int_S, i_int_T, i_int_L, i_int_I, i_bool_S, i_bool_T, i_bool_L, i_bool_I, i_list_S, i_list_T, i_list_L, i_list_I, i_tuple_S, i_tuple_T, i_tuple_L, i_tuple_I, i_dict_S, i_dict_T, i_dict_L, i_dict_I, e_ty_int, e_ty_bool, e_ty_list, e_ty_dict, e_isi2, e_pl3, e_pl4, e_eqB, e_depB, e_ok3, e_r2, e_r3, e_r0, e_for, e_i1, e_p2, e_n0, e_n4, e_ln0, e_ln1, Int.reduceEq, Int.reduceLT, Int.reduceLE, decide_false, Option.isSome_some, Option.isSome_none, Bool.or_self, Bool.true_or, ↓reduceIte, m_is_leaf]
  refine sp_is_name h ?_
  simp only [e_seq, e_next, e_ret, e_retN, e_if, e_asg, e_own, e_drop, e_c, e_var0, e_varS, e_op, e_test, e_and, e_or, e_not, e_andV, e_orV, e_notV, e_ifE, e_chain, e_nil, e_cons, e_tup, e_lst, e_cb, e_call, e_sl, e_part, e_noPart, e_items, e_rng1, e_lc, e_yes, e_fn, e_rho1, e_rho2, e_rho3, e_rho4, e_isi, e_ints, e_CT, e_lenS, e_lenT, e_lenL, e_addI, e_addS, e_addL, e_int, e_intB, e_ixT, e_ixL, e_ixS, e_at0, e_at1, e_at2, e_slT, e_slL, e_slS, e_tail, e_eqS, e_eqI, e_depS, e_depI, e_isiS, e_isiT, e_isiTT, e_isiTS, e_lcN, e_lcC, e_name, e_repl, e_inT, e_inL, e_inS, e_inTab, e_ixTab, e_is, e_isNot, e_eqv, e_nev, e_starts, D.bl.injEq, D.int.injEq, D.str.injEq, D.tup.injEq, exists_eq_left', exists_eq_left, true_and, and_true, and_self, if_true, if_false, ite_true, ite_false, Bool.false_eq_true, Bool.not_true, Bool.not_false, eq_self, List.set_cons_zero, List.set_cons_succ, List.getElem?_cons_zero, List.getElem?_cons_succ, List.length_cons, List.length_nil, List.replicate_zero, List.map_cons, List.map_nil, List.nil_append, List.cons_append, Nat.reduceAdd, Nat.zero_add, noOwn, wipeR, List.all_cons, List.all_nil, List.any_cons, List.any_nil, Bool.and_true, Bool.or_false, Bool.false_or, Bool.and_self, Bool.xor_false, Bool.false_xor, Bool.true_xor, decide_true, Option.some.injEq, e_itT, e_itL, e_itS, e_pl1, e_pl2, e_ty1, e_ty2, e_ok1, e_ok2, e_min, e_one, e_two, e_three, e_nnT, e_nnS, e_fl1, e_fl2, e_fl3, e_starts, e_st2, t_var_pair, t_var_box, t_var_half, t_var_shut, t_var_mark, t_var_mix, t_pair_var, t_pair_box, t_pair_half, t_pair_shut, t_pair_mark, t_pair_mix, t_box_var, t_box_pair, t_box_half, t_box_shut, t_box_mark, t_box_mix, t_half_var, t_half_pair, t_half_box, t_half_shut, t_half_mark, t_half_mix, t_shut_var, t_shut_pair, t_shut_box, t_shut_half, t_shut_mark, t_shut_mix, t_mark_var, t_mark_pair, t_mark_box, t_mark_half, t_mark_shut, t_mark_mix, t_mix_var, t_mix_pair, t_mix_box, t_mix_half, t_mix_shut, t_mix_mark, e_n2, e_n3, Int.reduceNeg, Bool.or_true, i_str_S, i_str_T, i_str_L, i_str_I, i_int_S, i_int_T, i_int_L, i_int_I, i_bool_S, i_bool_T, i_bool_L, i_bool_I, i_list_S, i_list_T, i_list_L, i_list_I, i_tuple_S, i_tuple_T, i_tuple_L, i_tuple_I, i_dict_S, i_dict_T, i_dict_L, i_dict_I, e_ty_int, e_ty_bool, e_ty_list, e_ty_dict, e_isi2, e_pl3, e_pl4, e_eqB, e_depB, e_ok3, e_r2, e_r3, e_r0, e_for, e_i1, e_p2, e_n0, e_n4, e_ln0, e_ln1, Int.reduceEq, Int.reduceLT, Int.reduceLE, decide_false, Option.isSome_some, Option.isSome_none, Bool.or_self, Bool.true_or, ↓reduceIte]
  exact q
theorem sp_is_leaf_t {xs : List D} (q : Q (.bl false)) : m_is_leaf [.tup xs, .bl false] Xd Q := by
  simp only [e_seq, e_next, e_ret, e_retN, e_if, e_asg, e_own, e_drop, e_c, e_var0, e_varS, e_op, e_test, e_and, e_or, e_not, e_andV, e_orV, e_notV, e_ifE, e_chain, e_nil, e_cons, e_tup, e_lst, e_cb, e_call, e_sl, e_part, e_noPart, e_items, e_rng1, e_lc, e_yes, e_fn, e_rho1, e_rho2, e_rho3, e_rho4, e_isi, e_ints, e_CT, e_lenS, e_lenT, e_lenL, e_addI, e_addS, e_addL, e_int, e_intB, e_ixT, e_ixL, e_ixS, e_at0, e_at1, e_at2, e_slT, e_slL, e_slS, e_tail, e_eqS, e_eqI, e_depS, e_depI, e_isiS, e_isiT, e_isiTT, e_isiTS, e_lcN, e_lcC, e_name, e_repl, e_inT, e_inL, e_inS, e_inTab, e_ixTab, e_is, e_isNot, e_eqv, e_nev, e_starts, D.bl.injEq, D.int.injEq, D.str.injEq, D.tup.injEq, exists_eq_left', exists_eq_left, true_and, and_true, and_self, if_true, if_false, ite_true, ite_false, Bool.false_eq_true, Bool.not_true, Bool.not_false, eq_self, List.set_cons_zero, List.set_cons_succ, List.getElem?_cons_zero, List.getElem?_cons_succ, List.length_cons, List.length_nil, List.replicate_zero, List.map_cons, List.map_nil, List.nil_append, List.cons_append, Nat.reduceAdd, Nat.zero_add, noOwn, wipeR, List.all_cons, List.all_nil, List.any_cons, List.any_nil, Bool.and_true, Bool.or_false, Bool.false_or, Bool.and_self, Bool.xor_false, Bool.false_xor, Bool.true_xor, decide_true, Option.some.injEq, e_itT, e_itL, e_itS, e_pl1, e_pl2, e_ty1, e_ty2, e_ok1, e_ok2, e_min, e_one, e_two, e_three, e_nnT, e_nnS, e_fl1, e_fl2, e_fl3, e_starts, e_st2, t_var_pair, t_var_box, t_var_half, t_var_shut, t_var_mark, t_var_mix, t_pair_var, t_pair_box, t_pair_half, t_pair_shut, t_pair_mark, t_pair_mix, t_box_var, t_box_pair, t_box_half, t_box_shut, t_box_mark, t_box_mix, t_half_var, t_half_pair, t_half_box, t_half_shut, t_half_mark, t_half_mix, t_shut_var, t_shut_pair, t_shut_box, t_shut_half, t_shut_mark, t_shut_mix, t_mark_var, t_mark_pair, t_mark_box, t_mark_half, t_mark_shut, t_mark_mix, t_mix_var, t_mix_pair, t_mix_box, t_mix_half, t_mix_shut, t_mix_mark, e_n2, e_n3, Int.reduceNeg, Bool.or_true, i_str_S, i_str_T, i_str_L, i_str_I, i_int_S, i_int_T, i_int_L, i_int_I, i_bool_S, i_bool_T, i_bool_L, i_bool_I, i_list_S, i_list_T, i_list_L, i_list_I, i_tuple_S, i_tuple_T, i_tuple_L, i_tuple_I, i_dict_S, i_dict_T, i_dict_L, i_dict_I, e_ty_int, e_ty_bool, e_ty_list, e_ty_dict, e_isi2, e_pl3, e_pl4, e_eqB, e_depB, e_ok3, e_r2, e_r3, e_r0, e_for, e_i1, e_p2, e_n0, e_n4, e_ln0, e_ln1, Int.reduceEq, Int.reduceLT, Int.reduceLE, decide_false, Option.isSome_some, Option.isSome_none, Bool.or_self, Bool.true_or, ↓reduceIte, m_is_leaf]
  refine sp_is_name_t ?_
  simp only [e_seq, e_next, e_ret, e_retN, e_if, e_asg, e_own, e_drop, e_c, e_var0, e_varS, e_op, e_test, e_and, e_or, e_not, e_andV, e_orV, e_notV, e_ifE, e_chain, e_nil, e_cons, e_tup, e_lst, e_cb, e_call, e_sl, e_part, e_noPart, e_items, e_rng1, e_lc, e_yes, e_fn, e_rho1, e_rho2, e_rho3, e_rho4, e_isi, e_ints, e_CT, e_lenS, e_lenT, e_lenL, e_addI, e_addS, e_addL, e_int, e_intB, e_ixT, e_ixL, e_ixS, e_at0, e_at1, e_at2, e_slT, e_slL, e_slS, e_tail, e_eqS, e_eqI, e_depS, e_depI, e_isiS, e_isiT, e_isiTT, e_isiTS, e_lcN, e_lcC, e_name, e_repl, e_inT, e_inL, e_inS, e_inTab, e_ixTab, e_is, e_isNot, e_eqv, e_nev, e_starts, D.bl.injEq, D.int.injEq, D.str.injEq, D.tup.injEq, exists_eq_left', exists_eq_left, true_and, and_true, and_self, if_true, if_false, ite_true, ite_false, Bool.false_eq_true, Bool.not_true, Bool.not_false, eq_self, List.set_cons_zero, List.set_cons_succ, List.getElem?_cons_zero, List.getElem?_cons_succ, List.length_cons, List.length_nil, List.replicate_zero, List.map_cons, List.map_nil, List.nil_append, List.cons_append, Nat.reduceAdd, Nat.zero_add, noOwn, wipeR, List.all_cons, List.all_nil, List.any_cons, List.any_nil, Bool.and_true, Bool.or_false, Bool.false_or, Bool.and_self, Bool.xor_false, Bool.false_xor, Bool.true_xor, decide_true, Option.some.injEq, e_itT, e_itL, e_itS, e_pl1, e_pl2, e_ty1, e_ty2, e_ok1, e_ok2, e_min, e_one, e_two, e_three, e_nnT, e_nnS, e_fl1, e_fl2, e_fl3, e_starts, e_st2, t_var_pair, t_var_box, t_var_half, t_var_shut, t_var_mark, t_var_mix, t_pair_var, t_pair_box, t_pair_half, t_pair_shut, t_pair_mark, t_pair_mix, t_box_var, t_box_pair, t_box_half, t_box_shut, t_box_mark, t_box_mix, t_half_var, t_half_pair, t_half_box, t_half_shut, t_half_mark, t_half_mix, t_shut_var, t_shut_pair, t_shut_box, t_shut_half, t_shut_mark, t_shut_mix, t_mark_var, t_mark_pair, t_mark_box, t_mark_half, t_mark_shut, t_mark_mix, t_mix_var, t_mix_pair, t_mix_box, t_mix_half, t_mix_shut, t_mix_mark, e_n2, e_n3, Int.reduceNeg, Bool.or_true, i_str_S, i_str_T, i_str_L, i_str_I, i_int_S, i_int_T, i_int_L, i_int_I, i_bool_S, i_bool_T, i_bool_L, i_bool_I, i_list_S, i_list_T, i_list_L, i_list_I, i_tuple_S, i_tuple_T, i_tuple_L, i_tuple_I, i_dict_S, i_dict_T, i_dict_L, i_dict_I, e_ty_int, e_ty_bool, e_ty_list, e_ty_dict, e_isi2, e_pl3, e_pl4, e_eqB, e_depB, e_ok3, e_r2, e_r3, e_r0, e_for, e_i1, e_p2, e_n0, e_n4, e_ln0, e_ln1, Int.reduceEq, Int.reduceLT, Int.reduceLE, decide_false, Option.isSome_some, Option.isSome_none, Bool.or_self, Bool.true_or, ↓reduceIte]
  exact q
theorem l_pair : List.lookup ("pair" : Str) tab_LENGTHS = some (D.int 3) := by kernel_rfl
theorem l_box : List.lookup ("box" : Str) tab_LENGTHS = some (D.int 3) := by kernel_rfl
theorem l_half : List.lookup ("half" : Str) tab_LENGTHS = some (D.int 2) := by kernel_rfl
theorem l_shut : List.lookup ("shut" : Str) tab_LENGTHS = some (D.int 3) := by kernel_rfl
theorem l_mark : List.lookup ("mark" : Str) tab_LENGTHS = some (D.int 3) := by kernel_rfl
theorem l_mix : List.lookup ("mix" : Str) tab_LENGTHS = some (D.int 2) := by kernel_rfl
theorem sp_sum2 {a b : Int} (q : Q (.int (a + b))) : HD.rSum [.lst [.int a, .int b]] Q := ⟨[a, b], rfl, by simpa using q⟩
theorem sp_sum1 {a : Int} (q : Q (.int a)) : HD.rSum [.lst [.int a]] Q := ⟨[a], rfl, by simpa using q⟩
theorem sp_max2 {a b : Int} (q : Q (.int (max a b))) : HD.rMax [.lst [.int a, .int b]] Q := .inl ⟨[a, b], rfl, by simp, fun m hm h => by
  have h1 := h a (by simp)
  have h2 := h b (by simp)
  simp at hm
  have : m = max a b := by omega
  rw [this]
  exact q⟩
theorem sp_max1 {a : Int} (q : Q (.int a)) : HD.rMax [.lst [.int a]] Q := .inl ⟨[a], rfl, by simp, fun m hm h => by
  simp at hm
  rw [hm]
  exact q⟩
theorem deep2 {a b c d : Int} : deepIn .non [.tup [.int a, .int b], .tup [.int c, .int d]] := by
  refine ⟨rfl, by simp [okDs, okD], by simp [depD, toP, PyData.depth], by simp [depD, toP, toPs, PyData.depth, PyData.depthAll]⟩
theorem deep1 {a b : Int} : deepIn .non [.tup [.int a, .int b]] := by
  refine ⟨rfl, by simp [okDs, okD], by simp [depD, toP, PyData.depth], by simp [depD, toP, toPs, PyData.depth, PyData.depthAll]⟩
theorem eq_tn {l : List D} : eqD (.tup l) .non = false := by simp [eqD, toP, PyData.eqv]
theorem or_r {a : Prop} : (a ∨ True) = True := by simp
theorem line0 : (0 < sizeLine) = True := eq_true (by decide)
theorem line1 : (0 + 1 < sizeLine) = True := eq_true (by decide)
theorem line2 : (1 < sizeLine) = True := eq_true (by decide)
theorem sp_measure : ∀ (t : Tm) (n : Nat) (r : Int) (Xd : Err → Prop) (Q : D → Prop), t.ok → t.depth ≤ r → t.depth ≤ n → Q (.tup [.int t.size, .int t.depth]) → m_measure n [t.d, .bl false, .int r] Xd Q
  | .nm s, 0, r, Xd, Q, h, hr, hn, q => by simp [Tm.depth] at hn
  | .nm s, n + 1, r, Xd, Q, h, hr, hn, q => by
    simp only [e_seq, e_next, e_ret, e_retN, e_if, e_asg, e_own, e_drop, e_c, e_var0, e_varS, e_op, e_test, e_and, e_or, e_not, e_andV, e_orV, e_notV, e_ifE, e_chain, e_nil, e_cons, e_tup, e_lst, e_cb, e_call, e_sl, e_part, e_noPart, e_items, e_rng1, e_lc, e_yes, e_fn, e_rho1, e_rho2, e_rho3, e_rho4, e_isi, e_ints, e_CT, e_lenS, e_lenT, e_lenL, e_addI, e_addS, e_addL, e_int, e_intB, e_ixT, e_ixL, e_ixS, e_at0, e_at1, e_at2, e_slT, e_slL, e_slS, e_tail, e_eqS, e_eqI, e_depS, e_depI, e_isiS, e_isiT, e_isiTT, e_isiTS, e_lcN, e_lcC, e_name, e_repl, e_inT, e_inL, e_inS, e_inTab, e_ixTab, e_is, e_isNot, e_eqv, e_nev, e_starts, D.bl.injEq, D.int.injEq, D.str.injEq, D.tup.injEq, exists_eq_left', exists_eq_left, true_and, and_true, and_self, if_true, if_false, ite_true, ite_false, Bool.false_eq_true, Bool.not_true, Bool.not_false, eq_self, List.set_cons_zero, List.set_cons_succ, List.getElem?_cons_zero, List.getElem?_cons_succ, List.length_cons, List.length_nil, List.replicate_zero, List.map_cons, List.map_nil, List.nil_append, List.cons_append, Nat.reduceAdd, Nat.zero_add, noOwn, wipeR, List.all_cons, List.all_nil, List.any_cons, List.any_nil, Bool.and_true, Bool.or_false, Bool.false_or, Bool.and_self, Bool.xor_false, Bool.false_xor, Bool.true_xor, decide_true, Option.some.injEq, e_itT, e_itL, e_itS, e_pl1, e_pl2, e_ty1, e_ty2, e_ok1, e_ok2, e_min, e_one, e_two, e_three, e_nnT, e_nnS, e_fl1, e_fl2, e_fl3, e_starts, e_st2, t_var_pair, t_var_box, t_var_half, t_var_shut, t_var_mark, t_var_mix, t_pair_var, t_pair_box, t_pair_half, t_pair_shut, t_pair_mark, t_pair_mix, t_box_var, t_box_pair, t_box_half, t_box_shut, t_box_mark, t_box_mix, t_half_var, t_half_pair, t_half_box, t_half_shut, t_half_mark, t_half_mix, t_shut_var, t_shut_pair, t_shut_box, t_shut_half, t_shut_mark, t_shut_mix, t_mark_var, t_mark_pair, t_mark_box, t_mark_half, t_mark_shut, t_mark_mix, t_mix_var, t_mix_pair, t_mix_box, t_mix_half, t_mix_shut, t_mix_mark, e_n2, e_n3, Int.reduceNeg, Bool.or_true, i_str_S, i_str_T, i_str_L, i_str_I, i_int_S, i_int_T, i_int_L, i_int_I, i_bool_S, i_bool_T, i_bool_L, i_bool_I, i_list_S, i_list_T, i_list_L, i_list_I, i_tuple_S, i_tuple_T, i_tuple_L, i_tuple_I, i_dict_S, i_dict_T, i_dict_L, i_dict_I, e_ty_int, e_ty_bool, e_ty_list, e_ty_dict, e_isi2, e_pl3, e_pl4, e_eqB, e_depB, e_ok3, e_r2, e_r3, e_r0, e_for, e_i1, e_p2, e_n0, e_n4, e_ln0, e_ln1, Int.reduceEq, Int.reduceLT, Int.reduceLE, decide_false, Option.isSome_some, Option.isSome_none, Bool.or_self, Bool.true_or, ↓reduceIte, m_measure, Tm.d]
    refine sp_is_leaf h ?_
    simp only [e_seq, e_next, e_ret, e_retN, e_if, e_asg, e_own, e_drop, e_c, e_var0, e_varS, e_op, e_test, e_and, e_or, e_not, e_andV, e_orV, e_notV, e_ifE, e_chain, e_nil, e_cons, e_tup, e_lst, e_cb, e_call, e_sl, e_part, e_noPart, e_items, e_rng1, e_lc, e_yes, e_fn, e_rho1, e_rho2, e_rho3, e_rho4, e_isi, e_ints, e_CT, e_lenS, e_lenT, e_lenL, e_addI, e_addS, e_addL, e_int, e_intB, e_ixT, e_ixL, e_ixS, e_at0, e_at1, e_at2, e_slT, e_slL, e_slS, e_tail, e_eqS, e_eqI, e_depS, e_depI, e_isiS, e_isiT, e_isiTT, e_isiTS, e_lcN, e_lcC, e_name, e_repl, e_inT, e_inL, e_inS, e_inTab, e_ixTab, e_is, e_isNot, e_eqv, e_nev, e_starts, D.bl.injEq, D.int.injEq, D.str.injEq, D.tup.injEq, exists_eq_left', exists_eq_left, true_and, and_true, and_self, if_true, if_false, ite_true, ite_false, Bool.false_eq_true, Bool.not_true, Bool.not_false, eq_self, List.set_cons_zero, List.set_cons_succ, List.getElem?_cons_zero, List.getElem?_cons_succ, List.length_cons, List.length_nil, List.replicate_zero, List.map_cons, List.map_nil, List.nil_append, List.cons_append, Nat.reduceAdd, Nat.zero_add, noOwn, wipeR, List.all_cons, List.all_nil, List.any_cons, List.any_nil, Bool.and_true, Bool.or_false, Bool.false_or, Bool.and_self, Bool.xor_false, Bool.false_xor, Bool.true_xor, decide_true, Option.some.injEq, e_itT, e_itL, e_itS, e_pl1, e_pl2, e_ty1, e_ty2, e_ok1, e_ok2, e_min, e_one, e_two, e_three, e_nnT, e_nnS, e_fl1, e_fl2, e_fl3, e_starts, e_st2, t_var_pair, t_var_box, t_var_half, t_var_shut, t_var_mark, t_var_mix, t_pair_var, t_pair_box, t_pair_half, t_pair_shut, t_pair_mark, t_pair_mix, t_box_var, t_box_pair, t_box_half, t_box_shut, t_box_mark, t_box_mix, t_half_var, t_half_pair, t_half_box, t_half_shut, t_half_mark, t_half_mix, t_shut_var, t_shut_pair, t_shut_box, t_shut_half, t_shut_mark, t_shut_mix, t_mark_var, t_mark_pair, t_mark_box, t_mark_half, t_mark_shut, t_mark_mix, t_mix_var, t_mix_pair, t_mix_box, t_mix_half, t_mix_shut, t_mix_mark, e_n2, e_n3, Int.reduceNeg, Bool.or_true, i_str_S, i_str_T, i_str_L, i_str_I, i_int_S, i_int_T, i_int_L, i_int_I, i_bool_S, i_bool_T, i_bool_L, i_bool_I, i_list_S, i_list_T, i_list_L, i_list_I, i_tuple_S, i_tuple_T, i_tuple_L, i_tuple_I, i_dict_S, i_dict_T, i_dict_L, i_dict_I, e_ty_int, e_ty_bool, e_ty_list, e_ty_dict, e_isi2, e_pl3, e_pl4, e_eqB, e_depB, e_ok3, e_r2, e_r3, e_r0, e_for, e_i1, e_p2, e_n0, e_n4, e_ln0, e_ln1, Int.reduceEq, Int.reduceLT, Int.reduceLE, decide_false, Option.isSome_some, Option.isSome_none, Bool.or_self, Bool.true_or, ↓reduceIte]
    exact q
  | .pair a b, 0, r, Xd, Q, h, hr, hn, q => by
    have := Tm.dpos (.pair a b)
    omega
  | .pair a b, n + 1, r, Xd, Q, h, hr, hn, q => by
    have ha := Tm.dpos a
    have hb := Tm.dpos b
    simp only [Tm.depth] at hr hn
    have e1 : decide (r = 1) = false := decide_eq_false (by omega)
    simp only [e_seq, e_next, e_ret, e_retN, e_if, e_asg, e_own, e_drop, e_c, e_var0, e_varS, e_op, e_test, e_and, e_or, e_not, e_andV, e_orV, e_notV, e_ifE, e_chain, e_nil, e_cons, e_tup, e_lst, e_cb, e_call, e_sl, e_part, e_noPart, e_items, e_rng1, e_lc, e_yes, e_fn, e_rho1, e_rho2, e_rho3, e_rho4, e_isi, e_ints, e_CT, e_lenS, e_lenT, e_lenL, e_addI, e_addS, e_addL, e_int, e_intB, e_ixT, e_ixL, e_ixS, e_at0, e_at1, e_at2, e_slT, e_slL, e_slS, e_tail, e_eqS, e_eqI, e_depS, e_depI, e_isiS, e_isiT, e_isiTT, e_isiTS, e_lcN, e_lcC, e_name, e_repl, e_inT, e_inL, e_inS, e_inTab, e_ixTab, e_is, e_isNot, e_eqv, e_nev, e_starts, D.bl.injEq, D.int.injEq, D.str.injEq, D.tup.injEq, exists_eq_left', exists_eq_left, true_and, and_true, and_self, if_true, if_false, ite_true, ite_false, Bool.false_eq_true, Bool.not_true, Bool.not_false, eq_self, List.set_cons_zero, List.set_cons_succ, List.getElem?_cons_zero, List.getElem?_cons_succ, List.length_cons, List.length_nil, List.replicate_zero, List.map_cons, List.map_nil, List.nil_append, List.cons_append, Nat.reduceAdd, Nat.zero_add, noOwn, wipeR, List.all_cons, List.all_nil, List.any_cons, List.any_nil, Bool.and_true, Bool.or_false, Bool.false_or, Bool.and_self, Bool.xor_false, Bool.false_xor, Bool.true_xor, decide_true, Option.some.injEq, e_itT, e_itL, e_itS, e_pl1, e_pl2, e_ty1, e_ty2, e_ok1, e_ok2, e_min, e_one, e_two, e_three, e_nnT, e_nnS, e_fl1, e_fl2, e_fl3, e_starts, e_st2, t_var_pair, t_var_box, t_var_half, t_var_shut, t_var_mark, t_var_mix, t_pair_var, t_pair_box, t_pair_half, t_pair_shut, t_pair_mark, t_pair_mix, t_box_var, t_box_pair, t_box_half, t_box_shut, t_box_mark, t_box_mix, t_half_var, t_half_pair, t_half_box, t_half_shut, t_half_mark, t_half_mix, t_shut_var, t_shut_pair, t_shut_box, t_shut_half, t_shut_mark, t_shut_mix, t_mark_var, t_mark_pair, t_mark_box, t_mark_half, t_mark_shut, t_mark_mix, t_mix_var, t_mix_pair, t_mix_box, t_mix_half, t_mix_shut, t_mix_mark, e_n2, e_n3, Int.reduceNeg, Bool.or_true, i_str_S, i_str_T, i_str_L, i_str_I, i_int_S, i_int_T, i_int_L, i_int_I, i_bool_S, i_bool_T, i_bool_L, i_bool_I, i_list_S, i_list_T, i_list_L, i_list_I, i_tuple_S, i_tuple_T, i_tuple_L, i_tuple_I, i_dict_S, i_dict_T, i_dict_L, i_dict_I, e_ty_int, e_ty_bool, e_ty_list, e_ty_dict, e_isi2, e_pl3, e_pl4, e_eqB, e_depB, e_ok3, e_r2, e_r3, e_r0, e_for, e_i1, e_p2, e_n0, e_n4, e_ln0, e_ln1, Int.reduceEq, Int.reduceLT, Int.reduceLE, decide_false, Option.isSome_some, Option.isSome_none, Bool.or_self, Bool.true_or, ↓reduceIte, m_measure, Tm.d]
    refine sp_is_leaf_t ?_
    simp only [e_seq, e_next, e_ret, e_retN, e_if, e_asg, e_own, e_drop, e_c, e_var0, e_varS, e_op, e_test, e_and, e_or, e_not, e_andV, e_orV, e_notV, e_ifE, e_chain, e_nil, e_cons, e_tup, e_lst, e_cb, e_call, e_sl, e_part, e_noPart, e_items, e_rng1, e_lc, e_yes, e_fn, e_rho1, e_rho2, e_rho3, e_rho4, e_isi, e_ints, e_CT, e_lenS, e_lenT, e_lenL, e_addI, e_addS, e_addL, e_int, e_intB, e_ixT, e_ixL, e_ixS, e_at0, e_at1, e_at2, e_slT, e_slL, e_slS, e_tail, e_eqS, e_eqI, e_depS, e_depI, e_isiS, e_isiT, e_isiTT, e_isiTS, e_lcN, e_lcC, e_name, e_repl, e_inT, e_inL, e_inS, e_inTab, e_ixTab, e_is, e_isNot, e_eqv, e_nev, e_starts, D.bl.injEq, D.int.injEq, D.str.injEq, D.tup.injEq, exists_eq_left', exists_eq_left, true_and, and_true, and_self, if_true, if_false, ite_true, ite_false, Bool.false_eq_true, Bool.not_true, Bool.not_false, eq_self, List.set_cons_zero, List.set_cons_succ, List.getElem?_cons_zero, List.getElem?_cons_succ, List.length_cons, List.length_nil, List.replicate_zero, List.map_cons, List.map_nil, List.nil_append, List.cons_append, Nat.reduceAdd, Nat.zero_add, noOwn, wipeR, List.all_cons, List.all_nil, List.any_cons, List.any_nil, Bool.and_true, Bool.or_false, Bool.false_or, Bool.and_self, Bool.xor_false, Bool.false_xor, Bool.true_xor, decide_true, Option.some.injEq, e_itT, e_itL, e_itS, e_pl1, e_pl2, e_ty1, e_ty2, e_ok1, e_ok2, e_min, e_one, e_two, e_three, e_nnT, e_nnS, e_fl1, e_fl2, e_fl3, e_starts, e_st2, t_var_pair, t_var_box, t_var_half, t_var_shut, t_var_mark, t_var_mix, t_pair_var, t_pair_box, t_pair_half, t_pair_shut, t_pair_mark, t_pair_mix, t_box_var, t_box_pair, t_box_half, t_box_shut, t_box_mark, t_box_mix, t_half_var, t_half_pair, t_half_box, t_half_shut, t_half_mark, t_half_mix, t_shut_var, t_shut_pair, t_shut_box, t_shut_half, t_shut_mark, t_shut_mix, t_mark_var, t_mark_pair, t_mark_box, t_mark_half, t_mark_shut, t_mark_mix, t_mix_var, t_mix_pair, t_mix_box, t_mix_half, t_mix_shut, t_mix_mark, e_n2, e_n3, Int.reduceNeg, Bool.or_true, i_str_S, i_str_T, i_str_L, i_str_I, i_int_S, i_int_T, i_int_L, i_int_I, i_bool_S, i_bool_T, i_bool_L, i_bool_I, i_list_S, i_list_T, i_list_L, i_list_I, i_tuple_S, i_tuple_T, i_tuple_L, i_tuple_I, i_dict_S, i_dict_T, i_dict_L, i_dict_I, e_ty_int, e_ty_bool, e_ty_list, e_ty_dict, e_isi2, e_pl3, e_pl4, e_eqB, e_depB, e_ok3, e_r2, e_r3, e_r0, e_for, e_i1, e_p2, e_n0, e_n4, e_ln0, e_ln1, Int.reduceEq, Int.reduceLT, Int.reduceLE, decide_false, Option.isSome_some, Option.isSome_none, Bool.or_self, Bool.true_or, ↓reduceIte, e1, l_pair]
    refine sp_measure a n (r - 1) _ _ h.1 (by omega) (by omega) ?_
    refine sp_measure b n (r - 1) _ _ h.2 (by omega) (by omega) ?_
    simp only [e_seq, e_next, e_ret, e_retN, e_if, e_asg, e_own, e_drop, e_c, e_var0, e_varS, e_op, e_test, e_and, e_or, e_not, e_andV, e_orV, e_notV, e_ifE, e_chain, e_nil, e_cons, e_tup, e_lst, e_cb, e_call, e_sl, e_part, e_noPart, e_items, e_rng1, e_lc, e_yes, e_fn, e_rho1, e_rho2, e_rho3, e_rho4, e_isi, e_ints, e_CT, e_lenS, e_lenT, e_lenL, e_addI, e_addS, e_addL, e_int, e_intB, e_ixT, e_ixL, e_ixS, e_at0, e_at1, e_at2, e_slT, e_slL, e_slS, e_tail, e_eqS, e_eqI, e_depS, e_depI, e_isiS, e_isiT, e_isiTT, e_isiTS, e_lcN, e_lcC, e_name, e_repl, e_inT, e_inL, e_inS, e_inTab, e_ixTab, e_is, e_isNot, e_eqv, e_nev, e_starts, D.bl.injEq, D.int.injEq, D.str.injEq, D.tup.injEq, exists_eq_left', exists_eq_left, true_and, and_true, and_self, if_true, if_false, ite_true, ite_false, Bool.false_eq_true, Bool.not_true, Bool.not_false, eq_self, List.set_cons_zero, List.set_cons_succ, List.getElem?_cons_zero, List.getElem?_cons_succ, List.length_cons, List.length_nil, List.replicate_zero, List.map_cons, List.map_nil, List.nil_append, List.cons_append, Nat.reduceAdd, Nat.zero_add, noOwn, wipeR, List.all_cons, List.all_nil, List.any_cons, List.any_nil, Bool.and_true, Bool.or_false, Bool.false_or, Bool.and_self, Bool.xor_false, Bool.false_xor, Bool.true_xor, decide_true, Option.some.injEq, e_itT, e_itL, e_itS, e_pl1, e_pl2, e_ty1, e_ty2, e_ok1, e_ok2, e_min, e_one, e_two, e_three, e_nnT, e_nnS, e_fl1, e_fl2, e_fl3, e_starts, e_st2, t_var_pair, t_var_box, t_var_half, t_var_shut, t_var_mark, t_var_mix, t_pair_var, t_pair_box, t_pair_half, t_pair_shut, t_pair_mark, t_pair_mix, t_box_var, t_box_pair, t_box_half, t_box_shut, t_box_mark, t_box_mix, t_half_var, t_half_pair, t_half_box, t_half_shut, t_half_mark, t_half_mix, t_shut_var, t_shut_pair, t_shut_box, t_shut_half, t_shut_mark, t_shut_mix, t_mark_var, t_mark_pair, t_mark_box, t_mark_half, t_mark_shut, t_mark_mix, t_mix_var, t_mix_pair, t_mix_box, t_mix_half, t_mix_shut, t_mix_mark, e_n2, e_n3, Int.reduceNeg, Bool.or_true, i_str_S, i_str_T, i_str_L, i_str_I, i_int_S, i_int_T, i_int_L, i_int_I, i_bool_S, i_bool_T, i_bool_L, i_bool_I, i_list_S, i_list_T, i_list_L, i_list_I, i_tuple_S, i_tuple_T, i_tuple_L, i_tuple_I, i_dict_S, i_dict_T, i_dict_L, i_dict_I, e_ty_int, e_ty_bool, e_ty_list, e_ty_dict, e_isi2, e_pl3, e_pl4, e_eqB, e_depB, e_ok3, e_r2, e_r3, e_r0, e_for, e_i1, e_p2, e_n0, e_n4, e_ln0, e_ln1, Int.reduceEq, Int.reduceLT, Int.reduceLE, decide_false, Option.isSome_some, Option.isSome_none, Bool.or_self, Bool.true_or, ↓reduceIte, eq_tn]
    refine ⟨.inr deep2, sp_sum2 (sp_max2 ?_)⟩
    simp only [e_seq, e_next, e_ret, e_retN, e_if, e_asg, e_own, e_drop, e_c, e_var0, e_varS, e_op, e_test, e_and, e_or, e_not, e_andV, e_orV, e_notV, e_ifE, e_chain, e_nil, e_cons, e_tup, e_lst, e_cb, e_call, e_sl, e_part, e_noPart, e_items, e_rng1, e_lc, e_yes, e_fn, e_rho1, e_rho2, e_rho3, e_rho4, e_isi, e_ints, e_CT, e_lenS, e_lenT, e_lenL, e_addI, e_addS, e_addL, e_int, e_intB, e_ixT, e_ixL, e_ixS, e_at0, e_at1, e_at2, e_slT, e_slL, e_slS, e_tail, e_eqS, e_eqI, e_depS, e_depI, e_isiS, e_isiT, e_isiTT, e_isiTS, e_lcN, e_lcC, e_name, e_repl, e_inT, e_inL, e_inS, e_inTab, e_ixTab, e_is, e_isNot, e_eqv, e_nev, e_starts, D.bl.injEq, D.int.injEq, D.str.injEq, D.tup.injEq, exists_eq_left', exists_eq_left, true_and, and_true, and_self, if_true, if_false, ite_true, ite_false, Bool.false_eq_true, Bool.not_true, Bool.not_false, eq_self, List.set_cons_zero, List.set_cons_succ, List.getElem?_cons_zero, List.getElem?_cons_succ, List.length_cons, List.length_nil, List.replicate_zero, List.map_cons, List.map_nil, List.nil_append, List.cons_append, Nat.reduceAdd, Nat.zero_add, noOwn, wipeR, List.all_cons, List.all_nil, List.any_cons, List.any_nil, Bool.and_true, Bool.or_false, Bool.false_or, Bool.and_self, Bool.xor_false, Bool.false_xor, Bool.true_xor, decide_true, Option.some.injEq, e_itT, e_itL, e_itS, e_pl1, e_pl2, e_ty1, e_ty2, e_ok1, e_ok2, e_min, e_one, e_two, e_three, e_nnT, e_nnS, e_fl1, e_fl2, e_fl3, e_starts, e_st2, t_var_pair, t_var_box, t_var_half, t_var_shut, t_var_mark, t_var_mix, t_pair_var, t_pair_box, t_pair_half, t_pair_shut, t_pair_mark, t_pair_mix, t_box_var, t_box_pair, t_box_half, t_box_shut, t_box_mark, t_box_mix, t_half_var, t_half_pair, t_half_box, t_half_shut, t_half_mark, t_half_mix, t_shut_var, t_shut_pair, t_shut_box, t_shut_half, t_shut_mark, t_shut_mix, t_mark_var, t_mark_pair, t_mark_box, t_mark_half, t_mark_shut, t_mark_mix, t_mix_var, t_mix_pair, t_mix_box, t_mix_half, t_mix_shut, t_mix_mark, e_n2, e_n3, Int.reduceNeg, Bool.or_true, i_str_S, i_str_T, i_str_L, i_str_I, i_int_S, i_int_T, i_int_L, i_int_I, i_bool_S, i_bool_T, i_bool_L, i_bool_I, i_list_S, i_list_T, i_list_L, i_list_I, i_tuple_S, i_tuple_T, i_tuple_L, i_tuple_I, i_dict_S, i_dict_T, i_dict_L, i_dict_I, e_ty_int, e_ty_bool, e_ty_list, e_ty_dict, e_isi2, e_pl3, e_pl4, e_eqB, e_depB, e_ok3, e_r2, e_r3, e_r0, e_for, e_i1, e_p2, e_n0, e_n4, e_ln0, e_ln1, Int.reduceEq, Int.reduceLT, Int.reduceLE, decide_false, Option.isSome_some, Option.isSome_none, Bool.or_self, Bool.true_or, ↓reduceIte]
    exact q
  | .box a b, 0, r, Xd, Q, h, hr, hn, q => by
    have := Tm.dpos (.box a b)
    omega
  | .box a b, n + 1, r, Xd, Q, h, hr, hn, q => by
    have ha := Tm.dpos a
    have hb := Tm.dpos b
    simp only [Tm.depth] at hr hn
    have e1 : decide (r = 1) = false := decide_eq_false (by omega)
    simp only [e_seq, e_next, e_ret, e_retN, e_if, e_asg, e_own, e_drop, e_c, e_var0, e_varS, e_op, e_test, e_and, e_or, e_not, e_andV, e_orV, e_notV, e_ifE, e_chain, e_nil, e_cons, e_tup, e_lst, e_cb, e_call, e_sl, e_part, e_noPart, e_items, e_rng1, e_lc, e_yes, e_fn, e_rho1, e_rho2, e_rho3, e_rho4, e_isi, e_ints, e_CT, e_lenS, e_lenT, e_lenL, e_addI, e_addS, e_addL, e_int, e_intB, e_ixT, e_ixL, e_ixS, e_at0, e_at1, e_at2, e_slT, e_slL, e_slS, e_tail, e_eqS, e_eqI, e_depS, e_depI, e_isiS, e_isiT, e_isiTT, e_isiTS, e_lcN, e_lcC, e_name, e_repl, e_inT, e_inL, e_inS, e_inTab, e_ixTab, e_is, e_isNot, e_eqv, e_nev, e_starts, D.bl.injEq, D.int.injEq, D.str.injEq, D.tup.injEq, exists_eq_left', exists_eq_left, true_and, and_true, and_self, if_true, if_false, ite_true, ite_false, Bool.false_eq_true, Bool.not_true, Bool.not_false, eq_self, List.set_cons_zero, List.set_cons_succ, List.getElem?_cons_zero, List.getElem?_cons_succ, List.length_cons, List.length_nil, List.replicate_zero, List.map_cons, List.map_nil, List.nil_append, List.cons_append, Nat.reduceAdd, Nat.zero_add, noOwn, wipeR, List.all_cons, List.all_nil, List.any_cons, List.any_nil, Bool.and_true, Bool.or_false, Bool.false_or, Bool.and_self, Bool.xor_false, Bool.false_xor, Bool.true_xor, decide_true, Option.some.injEq, e_itT, e_itL, e_itS, e_pl1, e_pl2, e_ty1, e_ty2, e_ok1, e_ok2, e_min, e_one, e_two, e_three, e_nnT, e_nnS, e_fl1, e_fl2, e_fl3, e_starts, e_st2, t_var_pair, t_var_box, t_var_half, t_var_shut, t_var_mark, t_var_mix, t_pair_var, t_pair_box, t_pair_half, t_pair_shut, t_pair_mark, t_pair_mix, t_box_var, t_box_pair, t_box_half, t_box_shut, t_box_mark, t_box_mix, t_half_var, t_half_pair, t_half_box, t_half_shut, t_half_mark, t_half_mix, t_shut_var, t_shut_pair, t_shut_box, t_shut_half, t_shut_mark, t_shut_mix, t_mark_var, t_mark_pair, t_mark_box, t_mark_half, t_mark_shut, t_mark_mix, t_mix_var, t_mix_pair, t_mix_box, t_mix_half, t_mix_shut, t_mix_mark, e_n2, e_n3, Int.reduceNeg, Bool.or_true, i_str_S, i_str_T, i_str_L, i_str_I, i_int_S, i_int_T, i_int_L, i_int_I, i_bool_S, i_bool_T, i_bool_L, i_bool_I, i_list_S, i_list_T, i_list_L, i_list_I, i_tuple_S, i_tuple_T, i_tuple_L, i_tuple_I, i_dict_S, i_dict_T, i_dict_L, i_dict_I, e_ty_int, e_ty_bool, e_ty_list, e_ty_dict, e_isi2, e_pl3, e_pl4, e_eqB, e_depB, e_ok3, e_r2, e_r3, e_r0, e_for, e_i1, e_p2, e_n0, e_n4, e_ln0, e_ln1, Int.reduceEq, Int.reduceLT, Int.reduceLE, decide_false, Option.isSome_some, Option.isSome_none, Bool.or_self, Bool.true_or, ↓reduceIte, m_measure, Tm.d]
    refine sp_is_leaf_t ?_
    simp only [e_seq, e_next, e_ret, e_retN, e_if, e_asg, e_own, e_drop, e_c, e_var0, e_varS, e_op, e_test, e_and, e_or, e_not, e_andV, e_orV, e_notV, e_ifE, e_chain, e_nil, e_cons, e_tup, e_lst, e_cb, e_call, e_sl, e_part, e_noPart, e_items, e_rng1, e_lc, e_yes, e_fn, e_rho1, e_rho2, e_rho3, e_rho4, e_isi, e_ints, e_CT, e_lenS, e_lenT, e_lenL, e_addI, e_addS, e_addL, e_int, e_intB, e_ixT, e_ixL, e_ixS, e_at0, e_at1, e_at2, e_slT, e_slL, e_slS, e_tail, e_eqS, e_eqI, e_depS, e_depI, e_isiS, e_isiT, e_isiTT, e_isiTS, e_lcN, e_lcC, e_name, e_repl, e_inT, e_inL, e_inS, e_inTab, e_ixTab, e_is, e_isNot, e_eqv, e_nev, e_starts, D.bl.injEq, D.int.injEq, D.str.injEq, D.tup.injEq, exists_eq_left', exists_eq_left, true_and, and_true, and_self, if_true, if_false, ite_true, ite_false, Bool.false_eq_true, Bool.not_true, Bool.not_false, eq_self, List.set_cons_zero, List.set_cons_succ, List.getElem?_cons_zero, List.getElem?_cons_succ, List.length_cons, List.length_nil, List.replicate_zero, List.map_cons, List.map_nil, List.nil_append, List.cons_append, Nat.reduceAdd, Nat.zero_add, noOwn, wipeR, List.all_cons, List.all_nil, List.any_cons, List.any_nil, Bool.and_true, Bool.or_false, Bool.false_or, Bool.and_self, Bool.xor_false, Bool.false_xor, Bool.true_xor, decide_true, Option.some.injEq, e_itT, e_itL, e_itS, e_pl1, e_pl2, e_ty1, e_ty2, e_ok1, e_ok2, e_min, e_one, e_two, e_three, e_nnT, e_nnS, e_fl1, e_fl2, e_fl3, e_starts, e_st2, t_var_pair, t_var_box, t_var_half, t_var_shut, t_var_mark, t_var_mix, t_pair_var, t_pair_box, t_pair_half, t_pair_shut, t_pair_mark, t_pair_mix, t_box_var, t_box_pair, t_box_half, t_box_shut, t_box_mark, t_box_mix, t_half_var, t_half_pair, t_half_box, t_half_shut, t_half_mark, t_half_mix, t_shut_var, t_shut_pair, t_shut_box, t_shut_half, t_shut_mark, t_shut_mix, t_mark_var, t_mark_pair, t_mark_box, t_mark_half, t_mark_shut, t_mark_mix, t_mix_var, t_mix_pair, t_mix_box, t_mix_half, t_mix_shut, t_mix_mark, e_n2, e_n3, Int.reduceNeg, Bool.or_true, i_str_S, i_str_T, i_str_L, i_str_I, i_int_S, i_int_T, i_int_L, i_int_I, i_bool_S, i_bool_T, i_bool_L, i_bool_I, i_list_S, i_list_T, i_list_L, i_list_I, i_tuple_S, i_tuple_T, i_tuple_L, i_tuple_I, i_dict_S, i_dict_T, i_dict_L, i_dict_I, e_ty_int, e_ty_bool, e_ty_list, e_ty_dict, e_isi2, e_pl3, e_pl4, e_eqB, e_depB, e_ok3, e_r2, e_r3, e_r0, e_for, e_i1, e_p2, e_n0, e_n4, e_ln0, e_ln1, Int.reduceEq, Int.reduceLT, Int.reduceLE, decide_false, Option.isSome_some, Option.isSome_none, Bool.or_self, Bool.true_or, ↓reduceIte, e1, l_box]
    refine sp_measure a n (r - 1) _ _ h.1 (by omega) (by omega) ?_
    refine sp_measure b n (r - 1) _ _ h.2 (by omega) (by omega) ?_
    simp only [e_seq, e_next, e_ret, e_retN, e_if, e_asg, e_own, e_drop, e_c, e_var0, e_varS, e_op, e_test, e_and, e_or, e_not, e_andV, e_orV, e_notV, e_ifE, e_chain, e_nil, e_cons, e_tup, e_lst, e_cb, e_call, e_sl, e_part, e_noPart, e_items, e_rng1, e_lc, e_yes, e_fn, e_rho1, e_rho2, e_rho3, e_rho4, e_isi, e_ints, e_CT, e_lenS, e_lenT, e_lenL, e_addI, e_addS, e_addL, e_int, e_intB, e_ixT, e_ixL, e_ixS, e_at0, e_at1, e_at2, e_slT, e_slL, e_slS, e_tail, e_eqS, e_eqI, e_depS, e_depI, e_isiS, e_isiT, e_isiTT, e_isiTS, e_lcN, e_lcC, e_name, e_repl, e_inT, e_inL, e_inS, e_inTab, e_ixTab, e_is, e_isNot, e_eqv, e_nev, e_starts, D.bl.injEq, D.int.injEq, D.str.injEq, D.tup.injEq, exists_eq_left', exists_eq_left, true_and, and_true, and_self, if_true, if_false, ite_true, ite_false, Bool.false_eq_true, Bool.not_true, Bool.not_false, eq_self, List.set_cons_zero, List.set_cons_succ, List.getElem?_cons_zero, List.getElem?_cons_succ, List.length_cons, List.length_nil, List.replicate_zero, List.map_cons, List.map_nil, List.nil_append, List.cons_append, Nat.reduceAdd, Nat.zero_add, noOwn, wipeR, List.all_cons, List.all_nil, List.any_cons, List.any_nil, Bool.and_true, Bool.or_false, Bool.false_or, Bool.and_self, Bool.xor_false, Bool.false_xor, Bool.true_xor, decide_true, Option.some.injEq, e_itT, e_itL, e_itS, e_pl1, e_pl2, e_ty1, e_ty2, e_ok1, e_ok2, e_min, e_one, e_two, e_three, e_nnT, e_nnS, e_fl1, e_fl2, e_fl3, e_starts, e_st2, t_var_pair, t_var_box, t_var_half, t_var_shut, t_var_mark, t_var_mix, t_pair_var, t_pair_box, t_pair_half, t_pair_shut, t_pair_mark, t_pair_mix, t_box_var, t_box_pair, t_box_half, t_box_shut, t_box_mark, t_box_mix, t_half_var, t_half_pair, t_half_box, t_half_shut, t_half_mark, t_half_mix, t_shut_var, t_shut_pair, t_shut_box, t_shut_half, t_shut_mark, t_shut_mix, t_mark_var, t_mark_pair, t_mark_box, t_mark_half, t_mark_shut, t_mark_mix, t_mix_var, t_mix_pair, t_mix_box, t_mix_half, t_mix_shut, t_mix_mark, e_n2, e_n3, Int.reduceNeg, Bool.or_true, i_str_S, i_str_T, i_str_L, i_str_I, i_int_S, i_int_T, i_int_L, i_int_I, i_bool_S, i_bool_T, i_bool_L, i_bool_I, i_list_S, i_list_T, i_list_L, i_list_I, i_tuple_S, i_tuple_T, i_tuple_L, i_tuple_I, i_dict_S, i_dict_T, i_dict_L, i_dict_I, e_ty_int, e_ty_bool, e_ty_list, e_ty_dict, e_isi2, e_pl3, e_pl4, e_eqB, e_depB, e_ok3, e_r2, e_r3, e_r0, e_for, e_i1, e_p2, e_n0, e_n4, e_ln0, e_ln1, Int.reduceEq, Int.reduceLT, Int.reduceLE, decide_false, Option.isSome_some, Option.isSome_none, Bool.or_self, Bool.true_or, ↓reduceIte, eq_tn]
    refine ⟨.inr deep2, sp_sum2 (sp_max2 ?_)⟩
    simp only [e_seq, e_next, e_ret, e_retN, e_if, e_asg, e_own, e_drop, e_c, e_var0, e_varS, e_op, e_test, e_and, e_or, e_not, e_andV, e_orV, e_notV, e_ifE, e_chain, e_nil, e_cons, e_tup, e_lst, e_cb, e_call, e_sl, e_part, e_noPart, e_items, e_rng1, e_lc, e_yes, e_fn, e_rho1, e_rho2, e_rho3, e_rho4, e_isi, e_ints, e_CT, e_lenS, e_lenT, e_lenL, e_addI, e_addS, e_addL, e_int, e_intB, e_ixT, e_ixL, e_ixS, e_at0, e_at1, e_at2, e_slT, e_slL, e_slS, e_tail, e_eqS, e_eqI, e_depS, e_depI, e_isiS, e_isiT, e_isiTT, e_isiTS, e_lcN, e_lcC, e_name, e_repl, e_inT, e_inL, e_inS, e_inTab, e_ixTab, e_is, e_isNot, e_eqv, e_nev, e_starts, D.bl.injEq, D.int.injEq, D.str.injEq, D.tup.injEq, exists_eq_left', exists_eq_left, true_and, and_true, and_self, if_true, if_false, ite_true, ite_false, Bool.false_eq_true, Bool.not_true, Bool.not_false, eq_self, List.set_cons_zero, List.set_cons_succ, List.getElem?_cons_zero, List.getElem?_cons_succ, List.length_cons, List.length_nil, List.replicate_zero, List.map_cons, List.map_nil, List.nil_append, List.cons_append, Nat.reduceAdd, Nat.zero_add, noOwn, wipeR, List.all_cons, List.all_nil, List.any_cons, List.any_nil, Bool.and_true, Bool.or_false, Bool.false_or, Bool.and_self, Bool.xor_false, Bool.false_xor, Bool.true_xor, decide_true, Option.some.injEq, e_itT, e_itL, e_itS, e_pl1, e_pl2, e_ty1, e_ty2, e_ok1, e_ok2, e_min, e_one, e_two, e_three, e_nnT, e_nnS, e_fl1, e_fl2, e_fl3, e_starts, e_st2, t_var_pair, t_var_box, t_var_half, t_var_shut, t_var_mark, t_var_mix, t_pair_var, t_pair_box, t_pair_half, t_pair_shut, t_pair_mark, t_pair_mix, t_box_var, t_box_pair, t_box_half, t_box_shut, t_box_mark, t_box_mix, t_half_var, t_half_pair, t_half_box, t_half_shut, t_half_mark, t_half_mix, t_shut_var, t_shut_pair, t_shut_box, t_shut_half, t_shut_mark, t_shut_mix, t_mark_var, t_mark_pair, t_mark_box, t_mark_half, t_mark_shut, t_mark_mix, t_mix_var, t_mix_pair, t_mix_box, t_mix_half, t_mix_shut, t_mix_mark, e_n2, e_n3, Int.reduceNeg, Bool.or_true, i_str_S, i_str_T, i_str_L, i_str_I, i_int_S, i_int_T, i_int_L, i_int_I, i_bool_S, i_bool_T, i_bool_L, i_bool_I, i_list_S, i_list_T, i_list_L, i_list_I, i_tuple_S, i_tuple_T, i_tuple_L, i_tuple_I, i_dict_S, i_dict_T, i_dict_L, i_dict_I, e_ty_int, e_ty_bool, e_ty_list, e_ty_dict, e_isi2, e_pl3, e_pl4, e_eqB, e_depB, e_ok3, e_r2, e_r3, e_r0, e_for, e_i1, e_p2, e_n0, e_n4, e_ln0, e_ln1, Int.reduceEq, Int.reduceLT, Int.reduceLE, decide_false, Option.isSome_some, Option.isSome_none, Bool.or_self, Bool.true_or, ↓reduceIte]
    exact q
  | .half s, 0, r, Xd, Q, h, hr, hn, q => by
    have := Tm.dpos (.half s)
    omega
  | .half s, n + 1, r, Xd, Q, h, hr, hn, q => by
    simp only [Tm.depth] at hr hn
    have e1 : decide (r = 1) = false := decide_eq_false (by omega)
    simp only [e_seq, e_next, e_ret, e_retN, e_if, e_asg, e_own, e_drop, e_c, e_var0, e_varS, e_op, e_test, e_and, e_or, e_not, e_andV, e_orV, e_notV, e_ifE, e_chain, e_nil, e_cons, e_tup, e_lst, e_cb, e_call, e_sl, e_part, e_noPart, e_items, e_rng1, e_lc, e_yes, e_fn, e_rho1, e_rho2, e_rho3, e_rho4, e_isi, e_ints, e_CT, e_lenS, e_lenT, e_lenL, e_addI, e_addS, e_addL, e_int, e_intB, e_ixT, e_ixL, e_ixS, e_at0, e_at1, e_at2, e_slT, e_slL, e_slS, e_tail, e_eqS, e_eqI, e_depS, e_depI, e_isiS, e_isiT, e_isiTT, e_isiTS, e_lcN, e_lcC, e_name, e_repl, e_inT, e_inL, e_inS, e_inTab, e_ixTab, e_is, e_isNot, e_eqv, e_nev, e_starts, D.bl.injEq, D.int.injEq, D.str.injEq, D.tup.injEq, exists_eq_left', exists_eq_left, true_and, and_true, and_self, if_true, if_false, ite_true, ite_false, Bool.false_eq_true, Bool.not_true, Bool.not_false, eq_self, List.set_cons_zero, List.set_cons_succ, List.getElem?_cons_zero, List.getElem?_cons_succ, List.length_cons, List.length_nil, List.replicate_zero, List.map_cons, List.map_nil, List.nil_append, List.cons_append, Nat.reduceAdd, Nat.zero_add, noOwn, wipeR, List.all_cons, List.all_nil, List.any_cons, List.any_nil, Bool.and_true, Bool.or_false, Bool.false_or, Bool.and_self, Bool.xor_false, Bool.false_xor, Bool.true_xor, decide_true, Option.some.injEq, e_itT, e_itL, e_itS, e_pl1, e_pl2, e_ty1, e_ty2, e_ok1, e_ok2, e_min, e_one, e_two, e_three, e_nnT, e_nnS, e_fl1, e_fl2, e_fl3, e_starts, e_st2, t_var_pair, t_var_box, t_var_half, t_var_shut, t_var_mark, t_var_mix, t_pair_var, t_pair_box, t_pair_half, t_pair_shut, t_pair_mark, t_pair_mix, t_box_var, t_box_pair, t_box_half, t_box_shut, t_box_mark, t_box_mix, t_half_var, t_half_pair, t_half_box, t_half_shut, t_half_mark, t_half_mix, t_shut_var, t_shut_pair, t_shut_box, t_shut_half, t_shut_mark, t_shut_mix, t_mark_var, t_mark_pair, t_mark_box, t_mark_half, t_mark_shut, t_mark_mix, t_mix_var, t_mix_pair, t_mix_box, t_mix_half, t_mix_shut, t_mix_mark, e_n2, e_n3, Int.reduceNeg, Bool.or_true, i_str_S, i_str_T, i_str_L, i_str_I, i_int_S, i_int_T, i_int_L, i_int_I, i_bool_S, i_bool_T, i_bool_L, i_bool_I, i_list_S, i_list_T, i_list_L, i_list_I, i_tuple_S, i_tuple_T, i_tuple_L, i_tuple_I, i_dict_S, i_dict_T, i_dict_L, i_dict_I, e_ty_int, e_ty_bool, e_ty_list, e_ty_dict, e_isi2, e_pl3, e_pl4, e_eqB, e_depB, e_ok3, e_r2, e_r3, e_r0, e_for, e_i1, e_p2, e_n0, e_n4, e_ln0, e_ln1, Int.reduceEq, Int.reduceLT, Int.reduceLE, decide_false, Option.isSome_some, Option.isSome_none, Bool.or_self, Bool.true_or, ↓reduceIte, m_measure, Tm.d]
    refine sp_is_leaf_t ?_
    simp only [e_seq, e_next, e_ret, e_retN, e_if, e_asg, e_own, e_drop, e_c, e_var0, e_varS, e_op, e_test, e_and, e_or, e_not, e_andV, e_orV, e_notV, e_ifE, e_chain, e_nil, e_cons, e_tup, e_lst, e_cb, e_call, e_sl, e_part, e_noPart, e_items, e_rng1, e_lc, e_yes, e_fn, e_rho1, e_rho2, e_rho3, e_rho4, e_isi, e_ints, e_CT, e_lenS, e_lenT, e_lenL, e_addI, e_addS, e_addL, e_int, e_intB, e_ixT, e_ixL, e_ixS, e_at0, e_at1, e_at2, e_slT, e_slL, e_slS, e_tail, e_eqS, e_eqI, e_depS, e_depI, e_isiS, e_isiT, e_isiTT, e_isiTS, e_lcN, e_lcC, e_name, e_repl, e_inT, e_inL, e_inS, e_inTab, e_ixTab, e_is, e_isNot, e_eqv, e_nev, e_starts, D.bl.injEq, D.int.injEq, D.str.injEq, D.tup.injEq, exists_eq_left', exists_eq_left, true_and, and_true, and_self, if_true, if_false, ite_true, ite_false, Bool.false_eq_true, Bool.not_true, Bool.not_false, eq_self, List.set_cons_zero, List.set_cons_succ, List.getElem?_cons_zero, List.getElem?_cons_succ, List.length_cons, List.length_nil, List.replicate_zero, List.map_cons, List.map_nil, List.nil_append, List.cons_append, Nat.reduceAdd, Nat.zero_add, noOwn, wipeR, List.all_cons, List.all_nil, List.any_cons, List.any_nil, Bool.and_true, Bool.or_false, Bool.false_or, Bool.and_self, Bool.xor_false, Bool.false_xor, Bool.true_xor, decide_true, Option.some.injEq, e_itT, e_itL, e_itS, e_pl1, e_pl2, e_ty1, e_ty2, e_ok1, e_ok2, e_min, e_one, e_two, e_three, e_nnT, e_nnS, e_fl1, e_fl2, e_fl3, e_starts, e_st2, t_var_pair, t_var_box, t_var_half, t_var_shut, t_var_mark, t_var_mix, t_pair_var, t_pair_box, t_pair_half, t_pair_shut, t_pair_mark, t_pair_mix, t_box_var, t_box_pair, t_box_half, t_box_shut, t_box_mark, t_box_mix, t_half_var, t_half_pair, t_half_box, t_half_shut, t_half_mark, t_half_mix, t_shut_var, t_shut_pair, t_shut_box, t_shut_half, t_shut_mark, t_shut_mix, t_mark_var, t_mark_pair, t_mark_box, t_mark_half, t_mark_shut, t_mark_mix, t_mix_var, t_mix_pair, t_mix_box, t_mix_half, t_mix_shut, t_mix_mark, e_n2, e_n3, Int.reduceNeg, Bool.or_true, i_str_S, i_str_T, i_str_L, i_str_I, i_int_S, i_int_T, i_int_L, i_int_I, i_bool_S, i_bool_T, i_bool_L, i_bool_I, i_list_S, i_list_T, i_list_L, i_list_I, i_tuple_S, i_tuple_T, i_tuple_L, i_tuple_I, i_dict_S, i_dict_T, i_dict_L, i_dict_I, e_ty_int, e_ty_bool, e_ty_list, e_ty_dict, e_isi2, e_pl3, e_pl4, e_eqB, e_depB, e_ok3, e_r2, e_r3, e_r0, e_for, e_i1, e_p2, e_n0, e_n4, e_ln0, e_ln1, Int.reduceEq, Int.reduceLT, Int.reduceLE, decide_false, Option.isSome_some, Option.isSome_none, Bool.or_self, Bool.true_or, ↓reduceIte, e1, l_half]
    refine sp_is_leaf h ?_
    simp only [e_seq, e_next, e_ret, e_retN, e_if, e_asg, e_own, e_drop, e_c, e_var0, e_varS, e_op, e_test, e_and, e_or, e_not, e_andV, e_orV, e_notV, e_ifE, e_chain, e_nil, e_cons, e_tup, e_lst, e_cb, e_call, e_sl, e_part, e_noPart, e_items, e_rng1, e_lc, e_yes, e_fn, e_rho1, e_rho2, e_rho3, e_rho4, e_isi, e_ints, e_CT, e_lenS, e_lenT, e_lenL, e_addI, e_addS, e_addL, e_int, e_intB, e_ixT, e_ixL, e_ixS, e_at0, e_at1, e_at2, e_slT, e_slL, e_slS, e_tail, e_eqS, e_eqI, e_depS, e_depI, e_isiS, e_isiT, e_isiTT, e_isiTS, e_lcN, e_lcC, e_name, e_repl, e_inT, e_inL, e_inS, e_inTab, e_ixTab, e_is, e_isNot, e_eqv, e_nev, e_starts, D.bl.injEq, D.int.injEq, D.str.injEq, D.tup.injEq, exists_eq_left', exists_eq_left, true_and, and_true, and_self, if_true, if_false, ite_true, ite_false, Bool.false_eq_true, Bool.not_true, Bool.not_false, eq_self, List.set_cons_zero, List.set_cons_succ, List.getElem?_cons_zero, List.getElem?_cons_succ, List.length_cons, List.length_nil, List.replicate_zero, List.map_cons, List.map_nil, List.nil_append, List.cons_append, Nat.reduceAdd, Nat.zero_add, noOwn, wipeR, List.all_cons, List.all_nil, List.any_cons, List.any_nil, Bool.and_true, Bool.or_false, Bool.false_or, Bool.and_self, Bool.xor_false, Bool.false_xor, Bool.true_xor, decide_true, Option.some.injEq, e_itT, e_itL, e_itS, e_pl1, e_pl2, e_ty1, e_ty2, e_ok1, e_ok2, e_min, e_one, e_two, e_three, e_nnT, e_nnS, e_fl1, e_fl2, e_fl3, e_starts, e_st2, t_var_pair, t_var_box, t_var_half, t_var_shut, t_var_mark, t_var_mix, t_pair_var, t_pair_box, t_pair_half, t_pair_shut, t_pair_mark, t_pair_mix, t_box_var, t_box_pair, t_box_half, t_box_shut, t_box_mark, t_box_mix, t_half_var, t_half_pair, t_half_box, t_half_shut, t_half_mark, t_half_mix, t_shut_var, t_shut_pair, t_shut_box, t_shut_half, t_shut_mark, t_shut_mix, t_mark_var, t_mark_pair, t_mark_box, t_mark_half, t_mark_shut, t_mark_mix, t_mix_var, t_mix_pair, t_mix_box, t_mix_half, t_mix_shut, t_mix_mark, e_n2, e_n3, Int.reduceNeg, Bool.or_true, i_str_S, i_str_T, i_str_L, i_str_I, i_int_S, i_int_T, i_int_L, i_int_I, i_bool_S, i_bool_T, i_bool_L, i_bool_I, i_list_S, i_list_T, i_list_L, i_list_I, i_tuple_S, i_tuple_T, i_tuple_L, i_tuple_I, i_dict_S, i_dict_T, i_dict_L, i_dict_I, e_ty_int, e_ty_bool, e_ty_list, e_ty_dict, e_isi2, e_pl3, e_pl4, e_eqB, e_depB, e_ok3, e_r2, e_r3, e_r0, e_for, e_i1, e_p2, e_n0, e_n4, e_ln0, e_ln1, Int.reduceEq, Int.reduceLT, Int.reduceLE, decide_false, Option.isSome_some, Option.isSome_none, Bool.or_self, Bool.true_or, ↓reduceIte]
    refine sp_measure (.nm s) n (r - 1) _ _ h (by simp only [Tm.depth]; omega) (by simp only [Tm.depth]; omega) ?_
    simp only [e_seq, e_next, e_ret, e_retN, e_if, e_asg, e_own, e_drop, e_c, e_var0, e_varS, e_op, e_test, e_and, e_or, e_not, e_andV, e_orV, e_notV, e_ifE, e_chain, e_nil, e_cons, e_tup, e_lst, e_cb, e_call, e_sl, e_part, e_noPart, e_items, e_rng1, e_lc, e_yes, e_fn, e_rho1, e_rho2, e_rho3, e_rho4, e_isi, e_ints, e_CT, e_lenS, e_lenT, e_lenL, e_addI, e_addS, e_addL, e_int, e_intB, e_ixT, e_ixL, e_ixS, e_at0, e_at1, e_at2, e_slT, e_slL, e_slS, e_tail, e_eqS, e_eqI, e_depS, e_depI, e_isiS, e_isiT, e_isiTT, e_isiTS, e_lcN, e_lcC, e_name, e_repl, e_inT, e_inL, e_inS, e_inTab, e_ixTab, e_is, e_isNot, e_eqv, e_nev, e_starts, D.bl.injEq, D.int.injEq, D.str.injEq, D.tup.injEq, exists_eq_left', exists_eq_left, true_and, and_true, and_self, if_true, if_false, ite_true, ite_false, Bool.false_eq_true, Bool.not_true, Bool.not_false, eq_self, List.set_cons_zero, List.set_cons_succ, List.getElem?_cons_zero, List.getElem?_cons_succ, List.length_cons, List.length_nil, List.replicate_zero, List.map_cons, List.map_nil, List.nil_append, List.cons_append, Nat.reduceAdd, Nat.zero_add, noOwn, wipeR, List.all_cons, List.all_nil, List.any_cons, List.any_nil, Bool.and_true, Bool.or_false, Bool.false_or, Bool.and_self, Bool.xor_false, Bool.false_xor, Bool.true_xor, decide_true, Option.some.injEq, e_itT, e_itL, e_itS, e_pl1, e_pl2, e_ty1, e_ty2, e_ok1, e_ok2, e_min, e_one, e_two, e_three, e_nnT, e_nnS, e_fl1, e_fl2, e_fl3, e_starts, e_st2, t_var_pair, t_var_box, t_var_half, t_var_shut, t_var_mark, t_var_mix, t_pair_var, t_pair_box, t_pair_half, t_pair_shut, t_pair_mark, t_pair_mix, t_box_var, t_box_pair, t_box_half, t_box_shut, t_box_mark, t_box_mix, t_half_var, t_half_pair, t_half_box, t_half_shut, t_half_mark, t_half_mix, t_shut_var, t_shut_pair, t_shut_box, t_shut_half, t_shut_mark, t_shut_mix, t_mark_var, t_mark_pair, t_mark_box, t_mark_half, t_mark_shut, t_mark_mix, t_mix_var, t_mix_pair, t_mix_box, t_mix_half, t_mix_shut, t_mix_mark, e_n2, e_n3, Int.reduceNeg, Bool.or_true, i_str_S, i_str_T, i_str_L, i_str_I, i_int_S, i_int_T, i_int_L, i_int_I, i_bool_S, i_bool_T, i_bool_L, i_bool_I, i_list_S, i_list_T, i_list_L, i_list_I, i_tuple_S, i_tuple_T, i_tuple_L, i_tuple_I, i_dict_S, i_dict_T, i_dict_L, i_dict_I, e_ty_int, e_ty_bool, e_ty_list, e_ty_dict, e_isi2, e_pl3, e_pl4, e_eqB, e_depB, e_ok3, e_r2, e_r3, e_r0, e_for, e_i1, e_p2, e_n0, e_n4, e_ln0, e_ln1, Int.reduceEq, Int.reduceLT, Int.reduceLE, decide_false, Option.isSome_some, Option.isSome_none, Bool.or_self, Bool.true_or, ↓reduceIte, eq_tn, Tm.size, Tm.depth]
    refine ⟨.inr deep1, sp_sum1 (sp_max1 ?_)⟩
    simp only [e_seq, e_next, e_ret, e_retN, e_if, e_asg, e_own, e_drop, e_c, e_var0, e_varS, e_op, e_test, e_and, e_or, e_not, e_andV, e_orV, e_notV, e_ifE, e_chain, e_nil, e_cons, e_tup, e_lst, e_cb, e_call, e_sl, e_part, e_noPart, e_items, e_rng1, e_lc, e_yes, e_fn, e_rho1, e_rho2, e_rho3, e_rho4, e_isi, e_ints, e_CT, e_lenS, e_lenT, e_lenL, e_addI, e_addS, e_addL, e_int, e_intB, e_ixT, e_ixL, e_ixS, e_at0, e_at1, e_at2, e_slT, e_slL, e_slS, e_tail, e_eqS, e_eqI, e_depS, e_depI, e_isiS, e_isiT, e_isiTT, e_isiTS, e_lcN, e_lcC, e_name, e_repl, e_inT, e_inL, e_inS, e_inTab, e_ixTab, e_is, e_isNot, e_eqv, e_nev, e_starts, D.bl.injEq, D.int.injEq, D.str.injEq, D.tup.injEq, exists_eq_left', exists_eq_left, true_and, and_true, and_self, if_true, if_false, ite_true, ite_false, Bool.false_eq_true, Bool.not_true, Bool.not_false, eq_self, List.set_cons_zero, List.set_cons_succ, List.getElem?_cons_zero, List.getElem?_cons_succ, List.length_cons, List.length_nil, List.replicate_zero, List.map_cons, List.map_nil, List.nil_append, List.cons_append, Nat.reduceAdd, Nat.zero_add, noOwn, wipeR, List.all_cons, List.all_nil, List.any_cons, List.any_nil, Bool.and_true, Bool.or_false, Bool.false_or, Bool.and_self, Bool.xor_false, Bool.false_xor, Bool.true_xor, decide_true, Option.some.injEq, e_itT, e_itL, e_itS, e_pl1, e_pl2, e_ty1, e_ty2, e_ok1, e_ok2, e_min, e_one, e_two, e_three, e_nnT, e_nnS, e_fl1, e_fl2, e_fl3, e_starts, e_st2, t_var_pair, t_var_box, t_var_half, t_var_shut, t_var_mark, t_var_mix, t_pair_var, t_pair_box, t_pair_half, t_pair_shut, t_pair_mark, t_pair_mix, t_box_var, t_box_pair, t_box_half, t_box_shut, t_box_mark, t_box_mix, t_half_var, t_half_pair, t_half_box, t_half_shut, t_half_mark, t_half_mix, t_shut_var, t_shut_pair, t_shut_box, t_shut_half, t_shut_mark, t_shut_mix, t_mark_var, t_mark_pair, t_mark_box, t_mark_half, t_mark_shut, t_mark_mix, t_mix_var, t_mix_pair, t_mix_box, t_mix_half, t_mix_shut, t_mix_mark, e_n2, e_n3, Int.reduceNeg, Bool.or_true, i_str_S, i_str_T, i_str_L, i_str_I, i_int_S, i_int_T, i_int_L, i_int_I, i_bool_S, i_bool_T, i_bool_L, i_bool_I, i_list_S, i_list_T, i_list_L, i_list_I, i_tuple_S, i_tuple_T, i_tuple_L, i_tuple_I, i_dict_S, i_dict_T, i_dict_L, i_dict_I, e_ty_int, e_ty_bool, e_ty_list, e_ty_dict, e_isi2, e_pl3, e_pl4, e_eqB, e_depB, e_ok3, e_r2, e_r3, e_r0, e_for, e_i1, e_p2, e_n0, e_n4, e_ln0, e_ln1, Int.reduceEq, Int.reduceLT, Int.reduceLE, decide_false, Option.isSome_some, Option.isSome_none, Bool.or_self, Bool.true_or, ↓reduceIte]
    exact q
  | .shut s a, 0, r, Xd, Q, h, hr, hn, q => by
    have := Tm.dpos (.shut s a)
    omega
  | .shut s a, n + 1, r, Xd, Q, h, hr, hn, q => by
    simp only [Tm.depth] at hr hn
    have e1 : decide (r = 1) = false := decide_eq_false (by omega)
    simp only [e_seq, e_next, e_ret, e_retN, e_if, e_asg, e_own, e_drop, e_c, e_var0, e_varS, e_op, e_test, e_and, e_or, e_not, e_andV, e_orV, e_notV, e_ifE, e_chain, e_nil, e_cons, e_tup, e_lst, e_cb, e_call, e_sl, e_part, e_noPart, e_items, e_rng1, e_lc, e_yes, e_fn, e_rho1, e_rho2, e_rho3, e_rho4, e_isi, e_ints, e_CT, e_lenS, e_lenT, e_lenL, e_addI, e_addS, e_addL, e_int, e_intB, e_ixT, e_ixL, e_ixS, e_at0, e_at1, e_at2, e_slT, e_slL, e_slS, e_tail, e_eqS, e_eqI, e_depS, e_depI, e_isiS, e_isiT, e_isiTT, e_isiTS, e_lcN, e_lcC, e_name, e_repl, e_inT, e_inL, e_inS, e_inTab, e_ixTab, e_is, e_isNot, e_eqv, e_nev, e_starts, D.bl.injEq, D.int.injEq, D.str.injEq, D.tup.injEq, exists_eq_left', exists_eq_left, true_and, and_true, and_self, if_true, if_false, ite_true, ite_false, Bool.false_eq_true, Bool.not_true, Bool.not_false, eq_self, List.set_cons_zero, List.set_cons_succ, List.getElem?_cons_zero, List.getElem?_cons_succ, List.length_cons, List.length_nil, List.replicate_zero, List.map_cons, List.map_nil, List.nil_append, List.cons_append, Nat.reduceAdd, Nat.zero_add, noOwn, wipeR, List.all_cons, List.all_nil, List.any_cons, List.any_nil, Bool.and_true, Bool.or_false, Bool.false_or, Bool.and_self, Bool.xor_false, Bool.false_xor, Bool.true_xor, decide_true, Option.some.injEq, e_itT, e_itL, e_itS, e_pl1, e_pl2, e_ty1, e_ty2, e_ok1, e_ok2, e_min, e_one, e_two, e_three, e_nnT, e_nnS, e_fl1, e_fl2, e_fl3, e_starts, e_st2, t_var_pair, t_var_box, t_var_half, t_var_shut, t_var_mark, t_var_mix, t_pair_var, t_pair_box, t_pair_half, t_pair_shut, t_pair_mark, t_pair_mix, t_box_var, t_box_pair, t_box_half, t_box_shut, t_box_mark, t_box_mix, t_half_var, t_half_pair, t_half_box, t_half_shut, t_half_mark, t_half_mix, t_shut_var, t_shut_pair, t_shut_box, t_shut_half, t_shut_mark, t_shut_mix, t_mark_var, t_mark_pair, t_mark_box, t_mark_half, t_mark_shut, t_mark_mix, t_mix_var, t_mix_pair, t_mix_box, t_mix_half, t_mix_shut, t_mix_mark, e_n2, e_n3, Int.reduceNeg, Bool.or_true, i_str_S, i_str_T, i_str_L, i_str_I, i_int_S, i_int_T, i_int_L, i_int_I, i_bool_S, i_bool_T, i_bool_L, i_bool_I, i_list_S, i_list_T, i_list_L, i_list_I, i_tuple_S, i_tuple_T, i_tuple_L, i_tuple_I, i_dict_S, i_dict_T, i_dict_L, i_dict_I, e_ty_int, e_ty_bool, e_ty_list, e_ty_dict, e_isi2, e_pl3, e_pl4, e_eqB, e_depB, e_ok3, e_r2, e_r3, e_r0, e_for, e_i1, e_p2, e_n0, e_n4, e_ln0, e_ln1, Int.reduceEq, Int.reduceLT, Int.reduceLE, decide_false, Option.isSome_some, Option.isSome_none, Bool.or_self, Bool.true_or, ↓reduceIte, m_measure, Tm.d]
    refine sp_is_leaf_t ?_
    simp only [e_seq, e_next, e_ret, e_retN, e_if, e_asg, e_own, e_drop, e_c, e_var0, e_varS, e_op, e_test, e_and, e_or, e_not, e_andV, e_orV, e_notV, e_ifE, e_chain, e_nil, e_cons, e_tup, e_lst, e_cb, e_call, e_sl, e_part, e_noPart, e_items, e_rng1, e_lc, e_yes, e_fn, e_rho1, e_rho2, e_rho3, e_rho4, e_isi, e_ints, e_CT, e_lenS, e_lenT, e_lenL, e_addI, e_addS, e_addL, e_int, e_intB, e_ixT, e_ixL, e_ixS, e_at0, e_at1, e_at2, e_slT, e_slL, e_slS, e_tail, e_eqS, e_eqI, e_depS, e_depI, e_isiS, e_isiT, e_isiTT, e_isiTS, e_lcN, e_lcC, e_name, e_repl, e_inT, e_inL, e_inS, e_inTab, e_ixTab, e_is, e_isNot, e_eqv, e_nev, e_starts, D.bl.injEq, D.int.injEq, D.str.injEq, D.tup.injEq, exists_eq_left', exists_eq_left, true_and, and_true, and_self, if_true, if_false, ite_true, ite_false, Bool.false_eq_true, Bool.not_true, Bool.not_false, eq_self, List.set_cons_zero, List.set_cons_succ, List.getElem?_cons_zero, List.getElem?_cons_succ, List.length_cons, List.length_nil, List.replicate_zero, List.map_cons, List.map_nil, List.nil_append, List.cons_append, Nat.reduceAdd, Nat.zero_add, noOwn, wipeR, List.all_cons, List.all_nil, List.any_cons, List.any_nil, Bool.and_true, Bool.or_false, Bool.false_or, Bool.and_self, Bool.xor_false, Bool.false_xor, Bool.true_xor, decide_true, Option.some.injEq, e_itT, e_itL, e_itS, e_pl1, e_pl2, e_ty1, e_ty2, e_ok1, e_ok2, e_min, e_one, e_two, e_three, e_nnT, e_nnS, e_fl1, e_fl2, e_fl3, e_starts, e_st2, t_var_pair, t_var_box, t_var_half, t_var_shut, t_var_mark, t_var_mix, t_pair_var, t_pair_box, t_pair_half, t_pair_shut, t_pair_mark, t_pair_mix, t_box_var, t_box_pair, t_box_half, t_box_shut, t_box_mark, t_box_mix, t_half_var, t_half_pair, t_half_box, t_half_shut, t_half_mark, t_half_mix, t_shut_var, t_shut_pair, t_shut_box, t_shut_half, t_shut_mark, t_shut_mix, t_mark_var, t_mark_pair, t_mark_box, t_mark_half, t_mark_shut, t_mark_mix, t_mix_var, t_mix_pair, t_mix_box, t_mix_half, t_mix_shut, t_mix_mark, e_n2, e_n3, Int.reduceNeg, Bool.or_true, i_str_S, i_str_T, i_str_L, i_str_I, i_int_S, i_int_T, i_int_L, i_int_I, i_bool_S, i_bool_T, i_bool_L, i_bool_I, i_list_S, i_list_T, i_list_L, i_list_I, i_tuple_S, i_tuple_T, i_tuple_L, i_tuple_I, i_dict_S, i_dict_T, i_dict_L, i_dict_I, e_ty_int, e_ty_bool, e_ty_list, e_ty_dict, e_isi2, e_pl3, e_pl4, e_eqB, e_depB, e_ok3, e_r2, e_r3, e_r0, e_for, e_i1, e_p2, e_n0, e_n4, e_ln0, e_ln1, Int.reduceEq, Int.reduceLT, Int.reduceLE, decide_false, Option.isSome_some, Option.isSome_none, Bool.or_self, Bool.true_or, ↓reduceIte, e1, l_shut]
    refine sp_is_leaf h.1 ?_
    simp only [e_seq, e_next, e_ret, e_retN, e_if, e_asg, e_own, e_drop, e_c, e_var0, e_varS, e_op, e_test, e_and, e_or, e_not, e_andV, e_orV, e_notV, e_ifE, e_chain, e_nil, e_cons, e_tup, e_lst, e_cb, e_call, e_sl, e_part, e_noPart, e_items, e_rng1, e_lc, e_yes, e_fn, e_rho1, e_rho2, e_rho3, e_rho4, e_isi, e_ints, e_CT, e_lenS, e_lenT, e_lenL, e_addI, e_addS, e_addL, e_int, e_intB, e_ixT, e_ixL, e_ixS, e_at0, e_at1, e_at2, e_slT, e_slL, e_slS, e_tail, e_eqS, e_eqI, e_depS, e_depI, e_isiS, e_isiT, e_isiTT, e_isiTS, e_lcN, e_lcC, e_name, e_repl, e_inT, e_inL, e_inS, e_inTab, e_ixTab, e_is, e_isNot, e_eqv, e_nev, e_starts, D.bl.injEq, D.int.injEq, D.str.injEq, D.tup.injEq, exists_eq_left', exists_eq_left, true_and, and_true, and_self, if_true, if_false, ite_true, ite_false, Bool.false_eq_true, Bool.not_true, Bool.not_false, eq_self, List.set_cons_zero, List.set_cons_succ, List.getElem?_cons_zero, List.getElem?_cons_succ, List.length_cons, List.length_nil, List.replicate_zero, List.map_cons, List.map_nil, List.nil_append, List.cons_append, Nat.reduceAdd, Nat.zero_add, noOwn, wipeR, List.all_cons, List.all_nil, List.any_cons, List.any_nil, Bool.and_true, Bool.or_false, Bool.false_or, Bool.and_self, Bool.xor_false, Bool.false_xor, Bool.true_xor, decide_true, Option.some.injEq, e_itT, e_itL, e_itS, e_pl1, e_pl2, e_ty1, e_ty2, e_ok1, e_ok2, e_min, e_one, e_two, e_three, e_nnT, e_nnS, e_fl1, e_fl2, e_fl3, e_starts, e_st2, t_var_pair, t_var_box, t_var_half, t_var_shut, t_var_mark, t_var_mix, t_pair_var, t_pair_box, t_pair_half, t_pair_shut, t_pair_mark, t_pair_mix, t_box_var, t_box_pair, t_box_half, t_box_shut, t_box_mark, t_box_mix, t_half_var, t_half_pair, t_half_box, t_half_shut, t_half_mark, t_half_mix, t_shut_var, t_shut_pair, t_shut_box, t_shut_half, t_shut_mark, t_shut_mix, t_mark_var, t_mark_pair, t_mark_box, t_mark_half, t_mark_shut, t_mark_mix, t_mix_var, t_mix_pair, t_mix_box, t_mix_half, t_mix_shut, t_mix_mark, e_n2, e_n3, Int.reduceNeg, Bool.or_true, i_str_S, i_str_T, i_str_L, i_str_I, i_int_S, i_int_T, i_int_L, i_int_I, i_bool_S, i_bool_T, i_bool_L, i_bool_I, i_list_S, i_list_T, i_list_L, i_list_I, i_tuple_S, i_tuple_T, i_tuple_L, i_tuple_I, i_dict_S, i_dict_T, i_dict_L, i_dict_I, e_ty_int, e_ty_bool, e_ty_list, e_ty_dict, e_isi2, e_pl3, e_pl4, e_eqB, e_depB, e_ok3, e_r2, e_r3, e_r0, e_for, e_i1, e_p2, e_n0, e_n4, e_ln0, e_ln1, Int.reduceEq, Int.reduceLT, Int.reduceLE, decide_false, Option.isSome_some, Option.isSome_none, Bool.or_self, Bool.true_or, ↓reduceIte]
    refine sp_measure (.nm s) n (r - 1) _ _ h.1 (by simp only [Tm.depth]; omega) (by simp only [Tm.depth]; omega) ?_
    refine sp_measure a n (r - 1) _ _ h.2 (by omega) (by omega) ?_
    simp only [e_seq, e_next, e_ret, e_retN, e_if, e_asg, e_own, e_drop, e_c, e_var0, e_varS, e_op, e_test, e_and, e_or, e_not, e_andV, e_orV, e_notV, e_ifE, e_chain, e_nil, e_cons, e_tup, e_lst, e_cb, e_call, e_sl, e_part, e_noPart, e_items, e_rng1, e_lc, e_yes, e_fn, e_rho1, e_rho2, e_rho3, e_rho4, e_isi, e_ints, e_CT, e_lenS, e_lenT, e_lenL, e_addI, e_addS, e_addL, e_int, e_intB, e_ixT, e_ixL, e_ixS, e_at0, e_at1, e_at2, e_slT, e_slL, e_slS, e_tail, e_eqS, e_eqI, e_depS, e_depI, e_isiS, e_isiT, e_isiTT, e_isiTS, e_lcN, e_lcC, e_name, e_repl, e_inT, e_inL, e_inS, e_inTab, e_ixTab, e_is, e_isNot, e_eqv, e_nev, e_starts, D.bl.injEq, D.int.injEq, D.str.injEq, D.tup.injEq, exists_eq_left', exists_eq_left, true_and, and_true, and_self, if_true, if_false, ite_true, ite_false, Bool.false_eq_true, Bool.not_true, Bool.not_false, eq_self, List.set_cons_zero, List.set_cons_succ, List.getElem?_cons_zero, List.getElem?_cons_succ, List.length_cons, List.length_nil, List.replicate_zero, List.map_cons, List.map_nil, List.nil_append, List.cons_append, Nat.reduceAdd, Nat.zero_add, noOwn, wipeR, List.all_cons, List.all_nil, List.any_cons, List.any_nil, Bool.and_true, Bool.or_false, Bool.false_or, Bool.and_self, Bool.xor_false, Bool.false_xor, Bool.true_xor, decide_true, Option.some.injEq, e_itT, e_itL, e_itS, e_pl1, e_pl2, e_ty1, e_ty2, e_ok1, e_ok2, e_min, e_one, e_two, e_three, e_nnT, e_nnS, e_fl1, e_fl2, e_fl3, e_starts, e_st2, t_var_pair, t_var_box, t_var_half, t_var_shut, t_var_mark, t_var_mix, t_pair_var, t_pair_box, t_pair_half, t_pair_shut, t_pair_mark, t_pair_mix, t_box_var, t_box_pair, t_box_half, t_box_shut, t_box_mark, t_box_mix, t_half_var, t_half_pair, t_half_box, t_half_shut, t_half_mark, t_half_mix, t_shut_var, t_shut_pair, t_shut_box, t_shut_half, t_shut_mark, t_shut_mix, t_mark_var, t_mark_pair, t_mark_box, t_mark_half, t_mark_shut, t_mark_mix, t_mix_var, t_mix_pair, t_mix_box, t_mix_half, t_mix_shut, t_mix_mark, e_n2, e_n3, Int.reduceNeg, Bool.or_true, i_str_S, i_str_T, i_str_L, i_str_I, i_int_S, i_int_T, i_int_L, i_int_I, i_bool_S, i_bool_T, i_bool_L, i_bool_I, i_list_S, i_list_T, i_list_L, i_list_I, i_tuple_S, i_tuple_T, i_tuple_L, i_tuple_I, i_dict_S, i_dict_T, i_dict_L, i_dict_I, e_ty_int, e_ty_bool, e_ty_list, e_ty_dict, e_isi2, e_pl3, e_pl4, e_eqB, e_depB, e_ok3, e_r2, e_r3, e_r0, e_for, e_i1, e_p2, e_n0, e_n4, e_ln0, e_ln1, Int.reduceEq, Int.reduceLT, Int.reduceLE, decide_false, Option.isSome_some, Option.isSome_none, Bool.or_self, Bool.true_or, ↓reduceIte, eq_tn, Tm.size, Tm.depth]
    refine ⟨.inr deep2, sp_sum2 (sp_max2 ?_)⟩
    simp only [e_seq, e_next, e_ret, e_retN, e_if, e_asg, e_own, e_drop, e_c, e_var0, e_varS, e_op, e_test, e_and, e_or, e_not, e_andV, e_orV, e_notV, e_ifE, e_chain, e_nil, e_cons, e_tup, e_lst, e_cb, e_call, e_sl, e_part, e_noPart, e_items, e_rng1, e_lc, e_yes, e_fn, e_rho1, e_rho2, e_rho3, e_rho4, e_isi, e_ints, e_CT, e_lenS, e_lenT, e_lenL, e_addI, e_addS, e_addL, e_int, e_intB, e_ixT, e_ixL, e_ixS, e_at0, e_at1, e_at2, e_slT, e_slL, e_slS, e_tail, e_eqS, e_eqI, e_depS, e_depI, e_isiS, e_isiT, e_isiTT, e_isiTS, e_lcN, e_lcC, e_name, e_repl, e_inT, e_inL, e_inS, e_inTab, e_ixTab, e_is, e_isNot, e_eqv, e_nev, e_starts, D.bl.injEq, D.int.injEq, D.str.injEq, D.tup.injEq, exists_eq_left', exists_eq_left, true_and, and_true, and_self, if_true, if_false, ite_true, ite_false, Bool.false_eq_true, Bool.not_true, Bool.not_false, eq_self, List.set_cons_zero, List.set_cons_succ, List.getElem?_cons_zero, List.getElem?_cons_succ, List.length_cons, List.length_nil, List.replicate_zero, List.map_cons, List.map_nil, List.nil_append, List.cons_append, Nat.reduceAdd, Nat.zero_add, noOwn, wipeR, List.all_cons, List.all_nil, List.any_cons, List.any_nil, Bool.and_true, Bool.or_false, Bool.false_or, Bool.and_self, Bool.xor_false, Bool.false_xor, Bool.true_xor, decide_true, Option.some.injEq, e_itT, e_itL, e_itS, e_pl1, e_pl2, e_ty1, e_ty2, e_ok1, e_ok2, e_min, e_one, e_two, e_three, e_nnT, e_nnS, e_fl1, e_fl2, e_fl3, e_starts, e_st2, t_var_pair, t_var_box, t_var_half, t_var_shut, t_var_mark, t_var_mix, t_pair_var, t_pair_box, t_pair_half, t_pair_shut, t_pair_mark, t_pair_mix, t_box_var, t_box_pair, t_box_half, t_box_shut, t_box_mark, t_box_mix, t_half_var, t_half_pair, t_half_box, t_half_shut, t_half_mark, t_half_mix, t_shut_var, t_shut_pair, t_shut_box, t_shut_half, t_shut_mark, t_shut_mix, t_mark_var, t_mark_pair, t_mark_box, t_mark_half, t_mark_shut, t_mark_mix, t_mix_var, t_mix_pair, t_mix_box, t_mix_half, t_mix_shut, t_mix_mark, e_n2, e_n3, Int.reduceNeg, Bool.or_true, i_str_S, i_str_T, i_str_L, i_str_I, i_int_S, i_int_T, i_int_L, i_int_I, i_bool_S, i_bool_T, i_bool_L, i_bool_I, i_list_S, i_list_T, i_list_L, i_list_I, i_tuple_S, i_tuple_T, i_tuple_L, i_tuple_I, i_dict_S, i_dict_T, i_dict_L, i_dict_I, e_ty_int, e_ty_bool, e_ty_list, e_ty_dict, e_isi2, e_pl3, e_pl4, e_eqB, e_depB, e_ok3, e_r2, e_r3, e_r0, e_for, e_i1, e_p2, e_n0, e_n4, e_ln0, e_ln1, Int.reduceEq, Int.reduceLT, Int.reduceLE, decide_false, Option.isSome_some, Option.isSome_none, Bool.or_self, Bool.true_or, ↓reduceIte]
    exact q
  | .mark s a, 0, r, Xd, Q, h, hr, hn, q => by
    have := Tm.dpos (.mark s a)
    omega
  | .mark s a, n + 1, r, Xd, Q, h, hr, hn, q => by
    simp only [Tm.depth] at hr hn
    have e1 : decide (r = 1) = false := decide_eq_false (by omega)
    simp only [e_seq, e_next, e_ret, e_retN, e_if, e_asg, e_own, e_drop, e_c, e_var0, e_varS, e_op, e_test, e_and, e_or, e_not, e_andV, e_orV, e_notV, e_ifE, e_chain, e_nil, e_cons, e_tup, e_lst, e_cb, e_call, e_sl, e_part, e_noPart, e_items, e_rng1, e_lc, e_yes, e_fn, e_rho1, e_rho2, e_rho3, e_rho4, e_isi, e_ints, e_CT, e_lenS, e_lenT, e_lenL, e_addI, e_addS, e_addL, e_int, e_intB, e_ixT, e_ixL, e_ixS, e_at0, e_at1, e_at2, e_slT, e_slL, e_slS, e_tail, e_eqS, e_eqI, e_depS, e_depI, e_isiS, e_isiT, e_isiTT, e_isiTS, e_lcN, e_lcC, e_name, e_repl, e_inT, e_inL, e_inS, e_inTab, e_ixTab, e_is, e_isNot, e_eqv, e_nev, e_starts, D.bl.injEq, D.int.injEq, D.str.injEq, D.tup.injEq, exists_eq_left', exists_eq_left, true_and, and_true, and_self, if_true, if_false, ite_true, ite_false, Bool.false_eq_true, Bool.not_true, Bool.not_false, eq_self, List.set_cons_zero, List.set_cons_succ, List.getElem?_cons_zero, List.getElem?_cons_succ, List.length_cons, List.length_nil, List.replicate_zero, List.map_cons, List.map_nil, List.nil_append, List.cons_append, Nat.reduceAdd, Nat.zero_add, noOwn, wipeR, List.all_cons, List.all_nil, List.any_cons, List.any_nil, Bool.and_true, Bool.or_false, Bool.false_or, Bool.and_self, Bool.xor_false, Bool.false_xor, Bool.true_xor, decide_true, Option.some.injEq, e_itT, e_itL, e_itS, e_pl1, e_pl2, e_ty1, e_ty2, e_ok1, e_ok2, e_min, e_one, e_two, e_three, e_nnT, e_nnS, e_fl1, e_fl2, e_fl3, e_starts, e_st2, t_var_pair, t_var_box, t_var_half, t_var_shut, t_var_mark, t_var_mix, t_pair_var, t_pair_box, t_pair_half, t_pair_shut, t_pair_mark, t_pair_mix, t_box_var, t_box_pair, t_box_half, t_box_shut, t_box_mark, t_box_mix, t_half_var, t_half_pair, t_half_box, t_half_shut, t_half_mark, t_half_mix, t_shut_var, t_shut_pair, t_shut_box, t_shut_half, t_shut_mark, t_shut_mix, t_mark_var, t_mark_pair, t_mark_box, t_mark_half, t_mark_shut, t_mark_mix, t_mix_var, t_mix_pair, t_mix_box, t_mix_half, t_mix_shut, t_mix_mark, e_n2, e_n3, Int.reduceNeg, Bool.or_true, i_str_S, i_str_T, i_str_L, i_str_I, i_int_S, i_int_T, i_int_L, i_int_I, i_bool_S, i_bool_T, i_bool_L, i_bool_I, i_list_S, i_list_T, i_list_L, i_list_I, i_tuple_S, i_tuple_T, i_tuple_L, i_tuple_I, i_dict_S, i_dict_T, i_dict_L, i_dict_I, e_ty_int, e_ty_bool, e_ty_list, e_ty_dict, e_isi2, e_pl3, e_pl4, e_eqB, e_depB, e_ok3, e_r2, e_r3, e_r0, e_for, e_i1, e_p2, e_n0, e_n4, e_ln0, e_ln1, Int.reduceEq, Int.reduceLT, Int.reduceLE, decide_false, Option.isSome_some, Option.isSome_none, Bool.or_self, Bool.true_or, ↓reduceIte, m_measure, Tm.d]
    refine sp_is_leaf_t ?_
    simp only [e_seq, e_next, e_ret, e_retN, e_if, e_asg, e_own, e_drop, e_c, e_var0, e_varS, e_op, e_test, e_and, e_or, e_not, e_andV, e_orV, e_notV, e_ifE, e_chain, e_nil, e_cons, e_tup, e_lst, e_cb, e_call, e_sl, e_part, e_noPart, e_items, e_rng1, e_lc, e_yes, e_fn, e_rho1, e_rho2, e_rho3, e_rho4, e_isi, e_ints, e_CT, e_lenS, e_lenT, e_lenL, e_addI, e_addS, e_addL, e_int, e_intB, e_ixT, e_ixL, e_ixS, e_at0, e_at1, e_at2, e_slT, e_slL, e_slS, e_tail, e_eqS, e_eqI, e_depS, e_depI, e_isiS, e_isiT, e_isiTT, e_isiTS, e_lcN, e_lcC, e_name, e_repl, e_inT, e_inL, e_inS, e_inTab, e_ixTab, e_is, e_isNot, e_eqv, e_nev, e_starts, D.bl.injEq, D.int.injEq, D.str.injEq, D.tup.injEq, exists_eq_left', exists_eq_left, true_and, and_true, and_self, if_true, if_false, ite_true, ite_false, Bool.false_eq_true, Bool.not_true, Bool.not_false, eq_self, List.set_cons_zero, List.set_cons_succ, List.getElem?_cons_zero, List.getElem?_cons_succ, List.length_cons, List.length_nil, List.replicate_zero, List.map_cons, List.map_nil, List.nil_append, List.cons_append, Nat.reduceAdd, Nat.zero_add, noOwn, wipeR, List.all_cons, List.all_nil, List.any_cons, List.any_nil, Bool.and_true, Bool.or_false, Bool.false_or, Bool.and_self, Bool.xor_false, Bool.false_xor, Bool.true_xor, decide_true, Option.some.injEq, e_itT, e_itL, e_itS, e_pl1, e_pl2, e_ty1, e_ty2, e_ok1, e_ok2, e_min, e_one, e_two, e_three, e_nnT, e_nnS, e_fl1, e_fl2, e_fl3, e_starts, e_st2, t_var_pair, t_var_box, t_var_half, t_var_shut, t_var_mark, t_var_mix, t_pair_var, t_pair_box, t_pair_half, t_pair_shut, t_pair_mark, t_pair_mix, t_box_var, t_box_pair, t_box_half, t_box_shut, t_box_mark, t_box_mix, t_half_var, t_half_pair, t_half_box, t_half_shut, t_half_mark, t_half_mix, t_shut_var, t_shut_pair, t_shut_box, t_shut_half, t_shut_mark, t_shut_mix, t_mark_var, t_mark_pair, t_mark_box, t_mark_half, t_mark_shut, t_mark_mix, t_mix_var, t_mix_pair, t_mix_box, t_mix_half, t_mix_shut, t_mix_mark, e_n2, e_n3, Int.reduceNeg, Bool.or_true, i_str_S, i_str_T, i_str_L, i_str_I, i_int_S, i_int_T, i_int_L, i_int_I, i_bool_S, i_bool_T, i_bool_L, i_bool_I, i_list_S, i_list_T, i_list_L, i_list_I, i_tuple_S, i_tuple_T, i_tuple_L, i_tuple_I, i_dict_S, i_dict_T, i_dict_L, i_dict_I, e_ty_int, e_ty_bool, e_ty_list, e_ty_dict, e_isi2, e_pl3, e_pl4, e_eqB, e_depB, e_ok3, e_r2, e_r3, e_r0, e_for, e_i1, e_p2, e_n0, e_n4, e_ln0, e_ln1, Int.reduceEq, Int.reduceLT, Int.reduceLE, decide_false, Option.isSome_some, Option.isSome_none, Bool.or_self, Bool.true_or, ↓reduceIte, e1, l_mark]
    refine sp_is_leaf h.1 ?_
    simp only [e_seq, e_next, e_ret, e_retN, e_if, e_asg, e_own, e_drop, e_c, e_var0, e_varS, e_op, e_test, e_and, e_or, e_not, e_andV, e_orV, e_notV, e_ifE, e_chain, e_nil, e_cons, e_tup, e_lst, e_cb, e_call, e_sl, e_part, e_noPart, e_items, e_rng1, e_lc, e_yes, e_fn, e_rho1, e_rho2, e_rho3, e_rho4, e_isi, e_ints, e_CT, e_lenS, e_lenT, e_lenL, e_addI, e_addS, e_addL, e_int, e_intB, e_ixT, e_ixL, e_ixS, e_at0, e_at1, e_at2, e_slT, e_slL, e_slS, e_tail, e_eqS, e_eqI, e_depS, e_depI, e_isiS, e_isiT, e_isiTT, e_isiTS, e_lcN, e_lcC, e_name, e_repl, e_inT, e_inL, e_inS, e_inTab, e_ixTab, e_is, e_isNot, e_eqv, e_nev, e_starts, D.bl.injEq, D.int.injEq, D.str.injEq, D.tup.injEq, exists_eq_left', exists_eq_left, true_and, and_true, and_self, if_true, if_false, ite_true, ite_false, Bool.false_eq_true, Bool.not_true, Bool.not_false, eq_self, List.set_cons_zero, List.set_cons_succ, List.getElem?_cons_zero, List.getElem?_cons_succ, List.length_cons, List.length_nil, List.replicate_zero, List.map_cons, List.map_nil, List.nil_append, List.cons_append, Nat.reduceAdd, Nat.zero_add, noOwn, wipeR, List.all_cons, List.all_nil, List.any_cons, List.any_nil, Bool.and_true, Bool.or_false, Bool.false_or, Bool.and_self, Bool.xor_false, Bool.false_xor, Bool.true_xor, decide_true, Option.some.injEq, e_itT, e_itL, e_itS, e_pl1, e_pl2, e_ty1, e_ty2, e_ok1, e_ok2, e_min, e_one, e_two, e_three, e_nnT, e_nnS, e_fl1, e_fl2, e_fl3, e_starts, e_st2, t_var_pair, t_var_box, t_var_half, t_var_shut, t_var_mark, t_var_mix, t_pair_var, t_pair_box, t_pair_half, t_pair_shut, t_pair_mark, t_pair_mix, t_box_var, t_box_pair, t_box_half, t_box_shut, t_box_mark, t_box_mix, t_half_var, t_half_pair, t_half_box, t_half_shut, t_half_mark, t_half_mix, t_shut_var, t_shut_pair, t_shut_box, t_shut_half, t_shut_mark, t_shut_mix, t_mark_var, t_mark_pair, t_mark_box, t_mark_half, t_mark_shut, t_mark_mix, t_mix_var, t_mix_pair, t_mix_box, t_mix_half, t_mix_shut, t_mix_mark, e_n2, e_n3, Int.reduceNeg, Bool.or_true, i_str_S, i_str_T, i_str_L, i_str_I, i_int_S, i_int_T, i_int_L, i_int_I, i_bool_S, i_bool_T, i_bool_L, i_bool_I, i_list_S, i_list_T, i_list_L, i_list_I, i_tuple_S, i_tuple_T, i_tuple_L, i_tuple_I, i_dict_S, i_dict_T, i_dict_L, i_dict_I, e_ty_int, e_ty_bool, e_ty_list, e_ty_dict, e_isi2, e_pl3, e_pl4, e_eqB, e_depB, e_ok3, e_r2, e_r3, e_r0, e_for, e_i1, e_p2, e_n0, e_n4, e_ln0, e_ln1, Int.reduceEq, Int.reduceLT, Int.reduceLE, decide_false, Option.isSome_some, Option.isSome_none, Bool.or_self, Bool.true_or, ↓reduceIte]
    refine sp_measure (.nm s) n (r - 1) _ _ h.1 (by simp only [Tm.depth]; omega) (by simp only [Tm.depth]; omega) ?_
    refine sp_measure a n (r - 1) _ _ h.2 (by omega) (by omega) ?_
    simp only [e_seq, e_next, e_ret, e_retN, e_if, e_asg, e_own, e_drop, e_c, e_var0, e_varS, e_op, e_test, e_and, e_or, e_not, e_andV, e_orV, e_notV, e_ifE, e_chain, e_nil, e_cons, e_tup, e_lst, e_cb, e_call, e_sl, e_part, e_noPart, e_items, e_rng1, e_lc, e_yes, e_fn, e_rho1, e_rho2, e_rho3, e_rho4, e_isi, e_ints, e_CT, e_lenS, e_lenT, e_lenL, e_addI, e_addS, e_addL, e_int, e_intB, e_ixT, e_ixL, e_ixS, e_at0, e_at1, e_at2, e_slT, e_slL, e_slS, e_tail, e_eqS, e_eqI, e_depS, e_depI, e_isiS, e_isiT, e_isiTT, e_isiTS, e_lcN, e_lcC, e_name, e_repl, e_inT, e_inL, e_inS, e_inTab, e_ixTab, e_is, e_isNot, e_eqv, e_nev, e_starts, D.bl.injEq, D.int.injEq, D.str.injEq, D.tup.injEq, exists_eq_left', exists_eq_left, true_and, and_true, and_self, if_true, if_false, ite_true, ite_false, Bool.false_eq_true, Bool.not_true, Bool.not_false, eq_self, List.set_cons_zero, List.set_cons_succ, List.getElem?_cons_zero, List.getElem?_cons_succ, List.length_cons, List.length_nil, List.replicate_zero, List.map_cons, List.map_nil, List.nil_append, List.cons_append, Nat.reduceAdd, Nat.zero_add, noOwn, wipeR, List.all_cons, List.all_nil, List.any_cons, List.any_nil, Bool.and_true, Bool.or_false, Bool.false_or, Bool.and_self, Bool.xor_false, Bool.false_xor, Bool.true_xor, decide_true, Option.some.injEq, e_itT, e_itL, e_itS, e_pl1, e_pl2, e_ty1, e_ty2, e_ok1, e_ok2, e_min, e_one, e_two, e_three, e_nnT, e_nnS, e_fl1, e_fl2, e_fl3, e_starts, e_st2, t_var_pair, t_var_box, t_var_half, t_var_shut, t_var_mark, t_var_mix, t_pair_var, t_pair_box, t_pair_half, t_pair_shut, t_pair_mark, t_pair_mix, t_box_var, t_box_pair, t_box_half, t_box_shut, t_box_mark, t_box_mix, t_half_var, t_half_pair, t_half_box, t_half_shut, t_half_mark, t_half_mix, t_shut_var, t_shut_pair, t_shut_box, t_shut_half, t_shut_mark, t_shut_mix, t_mark_var, t_mark_pair, t_mark_box, t_mark_half, t_mark_shut, t_mark_mix, t_mix_var, t_mix_pair, t_mix_box, t_mix_half, t_mix_shut, t_mix_mark, e_n2, e_n3, Int.reduceNeg, Bool.or_true, i_str_S, i_str_T, i_str_L, i_str_I, i_int_S, i_int_T, i_int_L, i_int_I, i_bool_S, i_bool_T, i_bool_L, i_bool_I, i_list_S, i_list_T, i_list_L, i_list_I, i_tuple_S, i_tuple_T, i_tuple_L, i_tuple_I, i_dict_S, i_dict_T, i_dict_L, i_dict_I, e_ty_int, e_ty_bool, e_ty_list, e_ty_dict, e_isi2, e_pl3, e_pl4, e_eqB, e_depB, e_ok3, e_r2, e_r3, e_r0, e_for, e_i1, e_p2, e_n0, e_n4, e_ln0, e_ln1, Int.reduceEq, Int.reduceLT, Int.reduceLE, decide_false, Option.isSome_some, Option.isSome_none, Bool.or_self, Bool.true_or, ↓reduceIte, eq_tn, Tm.size, Tm.depth]
    refine ⟨.inr deep2, sp_sum2 (sp_max2 ?_)⟩
    simp only [e_seq, e_next, e_ret, e_retN, e_if, e_asg, e_own, e_drop, e_c, e_var0, e_varS, e_op, e_test, e_and, e_or, e_not, e_andV, e_orV, e_notV, e_ifE, e_chain, e_nil, e_cons, e_tup, e_lst, e_cb, e_call, e_sl, e_part, e_noPart, e_items, e_rng1, e_lc, e_yes, e_fn, e_rho1, e_rho2, e_rho3, e_rho4, e_isi, e_ints, e_CT, e_lenS, e_lenT, e_lenL, e_addI, e_addS, e_addL, e_int, e_intB, e_ixT, e_ixL, e_ixS, e_at0, e_at1, e_at2, e_slT, e_slL, e_slS, e_tail, e_eqS, e_eqI, e_depS, e_depI, e_isiS, e_isiT, e_isiTT, e_isiTS, e_lcN, e_lcC, e_name, e_repl, e_inT, e_inL, e_inS, e_inTab, e_ixTab, e_is, e_isNot, e_eqv, e_nev, e_starts, D.bl.injEq, D.int.injEq, D.str.injEq, D.tup.injEq, exists_eq_left', exists_eq_left, true_and, and_true, and_self, if_true, if_false, ite_true, ite_false, Bool.false_eq_true, Bool.not_true, Bool.not_false, eq_self, List.set_cons_zero, List.set_cons_succ, List.getElem?_cons_zero, List.getElem?_cons_succ, List.length_cons, List.length_nil, List.replicate_zero, List.map_cons, List.map_nil, List.nil_append, List.cons_append, Nat.reduceAdd, Nat.zero_add, noOwn, wipeR, List.all_cons, List.all_nil, List.any_cons, List.any_nil, Bool.and_true, Bool.or_false, Bool.false_or, Bool.and_self, Bool.xor_false, Bool.false_xor, Bool.true_xor, decide_true, Option.some.injEq, e_itT, e_itL, e_itS, e_pl1, e_pl2, e_ty1, e_ty2, e_ok1, e_ok2, e_min, e_one, e_two, e_three, e_nnT, e_nnS, e_fl1, e_fl2, e_fl3, e_starts, e_st2, t_var_pair, t_var_box, t_var_half, t_var_shut, t_var_mark, t_var_mix, t_pair_var, t_pair_box, t_pair_half, t_pair_shut, t_pair_mark, t_pair_mix, t_box_var, t_box_pair, t_box_half, t_box_shut, t_box_mark, t_box_mix, t_half_var, t_half_pair, t_half_box, t_half_shut, t_half_mark, t_half_mix, t_shut_var, t_shut_pair, t_shut_box, t_shut_half, t_shut_mark, t_shut_mix, t_mark_var, t_mark_pair, t_mark_box, t_mark_half, t_mark_shut, t_mark_mix, t_mix_var, t_mix_pair, t_mix_box, t_mix_half, t_mix_shut, t_mix_mark, e_n2, e_n3, Int.reduceNeg, Bool.or_true, i_str_S, i_str_T, i_str_L, i_str_I, i_int_S, i_int_T, i_int_L, i_int_I, i_bool_S, i_bool_T, i_bool_L, i_bool_I, i_list_S, i_list_T, i_list_L, i_list_I, i_tuple_S, i_tuple_T, i_tuple_L, i_tuple_I, i_dict_S, i_dict_T, i_dict_L, i_dict_I, e_ty_int, e_ty_bool, e_ty_list, e_ty_dict, e_isi2, e_pl3, e_pl4, e_eqB, e_depB, e_ok3, e_r2, e_r3, e_r0, e_for, e_i1, e_p2, e_n0, e_n4, e_ln0, e_ln1, Int.reduceEq, Int.reduceLT, Int.reduceLE, decide_false, Option.isSome_some, Option.isSome_none, Bool.or_self, Bool.true_or, ↓reduceIte]
    exact q
  | .mix a, 0, r, Xd, Q, h, hr, hn, q => by
    have := Tm.dpos (.mix a)
    omega
  | .mix a, n + 1, r, Xd, Q, h, hr, hn, q => by
    have ha := Tm.dpos a
    simp only [Tm.depth] at hr hn
    have e1 : decide (r = 1) = false := decide_eq_false (by omega)
    simp only [e_seq, e_next, e_ret, e_retN, e_if, e_asg, e_own, e_drop, e_c, e_var0, e_varS, e_op, e_test, e_and, e_or, e_not, e_andV, e_orV, e_notV, e_ifE, e_chain, e_nil, e_cons, e_tup, e_lst, e_cb, e_call, e_sl, e_part, e_noPart, e_items, e_rng1, e_lc, e_yes, e_fn, e_rho1, e_rho2, e_rho3, e_rho4, e_isi, e_ints, e_CT, e_lenS, e_lenT, e_lenL, e_addI, e_addS, e_addL, e_int, e_intB, e_ixT, e_ixL, e_ixS, e_at0, e_at1, e_at2, e_slT, e_slL, e_slS, e_tail, e_eqS, e_eqI, e_depS, e_depI, e_isiS, e_isiT, e_isiTT, e_isiTS, e_lcN, e_lcC, e_name, e_repl, e_inT, e_inL, e_inS, e_inTab, e_ixTab, e_is, e_isNot, e_eqv, e_nev, e_starts, D.bl.injEq, D.int.injEq, D.str.injEq, D.tup.injEq, exists_eq_left', exists_eq_left, true_and, and_true, and_self, if_true, if_false, ite_true, ite_false, Bool.false_eq_true, Bool.not_true, Bool.not_false, eq_self, List.set_cons_zero, List.set_cons_succ, List.getElem?_cons_zero, List.getElem?_cons_succ, List.length_cons, List.length_nil, List.replicate_zero, List.map_cons, List.map_nil, List.nil_append, List.cons_append, Nat.reduceAdd, Nat.zero_add, noOwn, wipeR, List.all_cons, List.all_nil, List.any_cons, List.any_nil, Bool.and_true, Bool.or_false, Bool.false_or, Bool.and_self, Bool.xor_false, Bool.false_xor, Bool.true_xor, decide_true, Option.some.injEq, e_itT, e_itL, e_itS, e_pl1, e_pl2, e_ty1, e_ty2, e_ok1, e_ok2, e_min, e_one, e_two, e_three, e_nnT, e_nnS, e_fl1, e_fl2, e_fl3, e_starts, e_st2, t_var_pair, t_var_box, t_var_half, t_var_shut, t_var_mark, t_var_mix, t_pair_var, t_pair_box, t_pair_half, t_pair_shut, t_pair_mark, t_pair_mix, t_box_var, t_box_pair, t_box_half, t_box_shut, t_box_mark, t_box_mix, t_half_var, t_half_pair, t_half_box, t_half_shut, t_half_mark, t_half_mix, t_shut_var, t_shut_pair, t_shut_box, t_shut_half, t_shut_mark, t_shut_mix, t_mark_var, t_mark_pair, t_mark_box, t_mark_half, t_mark_shut, t_mark_mix, t_mix_var, t_mix_pair, t_mix_box, t_mix_half, t_mix_shut, t_mix_mark, e_n2, e_n3, Int.reduceNeg, Bool.or_true, i_str_S, i_str_T, i_str_L, i_str_I, i_int_S, i_int_T, i_int_L, i_int_I, i_bool_S, i_bool_T, i_bool_L, i_bool_I, i_list_S, i_list_T, i_list_L, i_list_I, i_tuple_S, i_tuple_T, i_tuple_L, i_tuple_I, i_dict_S, i_dict_T, i_dict_L, i_dict_I, e_ty_int, e_ty_bool, e_ty_list, e_ty_dict, e_isi2, e_pl3, e_pl4, e_eqB, e_depB, e_ok3, e_r2, e_r3, e_r0, e_for, e_i1, e_p2, e_n0, e_n4, e_ln0, e_ln1, Int.reduceEq, Int.reduceLT, Int.reduceLE, decide_false, Option.isSome_some, Option.isSome_none, Bool.or_self, Bool.true_or, ↓reduceIte, m_measure, Tm.d]
    refine sp_is_leaf_t ?_
    simp only [e_seq, e_next, e_ret, e_retN, e_if, e_asg, e_own, e_drop, e_c, e_var0, e_varS, e_op, e_test, e_and, e_or, e_not, e_andV, e_orV, e_notV, e_ifE, e_chain, e_nil, e_cons, e_tup, e_lst, e_cb, e_call, e_sl, e_part, e_noPart, e_items, e_rng1, e_lc, e_yes, e_fn, e_rho1, e_rho2, e_rho3, e_rho4, e_isi, e_ints, e_CT, e_lenS, e_lenT, e_lenL, e_addI, e_addS, e_addL, e_int, e_intB, e_ixT, e_ixL, e_ixS, e_at0, e_at1, e_at2, e_slT, e_slL, e_slS, e_tail, e_eqS, e_eqI, e_depS, e_depI, e_isiS, e_isiT, e_isiTT, e_isiTS, e_lcN, e_lcC, e_name, e_repl, e_inT, e_inL, e_inS, e_inTab, e_ixTab, e_is, e_isNot, e_eqv, e_nev, e_starts, D.bl.injEq, D.int.injEq, D.str.injEq, D.tup.injEq, exists_eq_left', exists_eq_left, true_and, and_true, and_self, if_true, if_false, ite_true, ite_false, Bool.false_eq_true, Bool.not_true, Bool.not_false, eq_self, List.set_cons_zero, List.set_cons_succ, List.getElem?_cons_zero, List.getElem?_cons_succ, List.length_cons, List.length_nil, List.replicate_zero, List.map_cons, List.map_nil, List.nil_append, List.cons_append, Nat.reduceAdd, Nat.zero_add, noOwn, wipeR, List.all_cons, List.all_nil, List.any_cons, List.any_nil, Bool.and_true, Bool.or_false, Bool.false_or, Bool.and_self, Bool.xor_false, Bool.false_xor, Bool.true_xor, decide_true, Option.some.injEq, e_itT, e_itL, e_itS, e_pl1, e_pl2, e_ty1, e_ty2, e_ok1, e_ok2, e_min, e_one, e_two, e_three, e_nnT, e_nnS, e_fl1, e_fl2, e_fl3, e_starts, e_st2, t_var_pair, t_var_box, t_var_half, t_var_shut, t_var_mark, t_var_mix, t_pair_var, t_pair_box, t_pair_half, t_pair_shut, t_pair_mark, t_pair_mix, t_box_var, t_box_pair, t_box_half, t_box_shut, t_box_mark, t_box_mix, t_half_var, t_half_pair, t_half_box, t_half_shut, t_half_mark, t_half_mix, t_shut_var, t_shut_pair, t_shut_box, t_shut_half, t_shut_mark, t_shut_mix, t_mark_var, t_mark_pair, t_mark_box, t_mark_half, t_mark_shut, t_mark_mix, t_mix_var, t_mix_pair, t_mix_box, t_mix_half, t_mix_shut, t_mix_mark, e_n2, e_n3, Int.reduceNeg, Bool.or_true, i_str_S, i_str_T, i_str_L, i_str_I, i_int_S, i_int_T, i_int_L, i_int_I, i_bool_S, i_bool_T, i_bool_L, i_bool_I, i_list_S, i_list_T, i_list_L, i_list_I, i_tuple_S, i_tuple_T, i_tuple_L, i_tuple_I, i_dict_S, i_dict_T, i_dict_L, i_dict_I, e_ty_int, e_ty_bool, e_ty_list, e_ty_dict, e_isi2, e_pl3, e_pl4, e_eqB, e_depB, e_ok3, e_r2, e_r3, e_r0, e_for, e_i1, e_p2, e_n0, e_n4, e_ln0, e_ln1, Int.reduceEq, Int.reduceLT, Int.reduceLE, decide_false, Option.isSome_some, Option.isSome_none, Bool.or_self, Bool.true_or, ↓reduceIte, e1, l_mix]
    refine sp_measure a n (r - 1) _ _ h (by omega) (by omega) ?_
    simp only [e_seq, e_next, e_ret, e_retN, e_if, e_asg, e_own, e_drop, e_c, e_var0, e_varS, e_op, e_test, e_and, e_or, e_not, e_andV, e_orV, e_notV, e_ifE, e_chain, e_nil, e_cons, e_tup, e_lst, e_cb, e_call, e_sl, e_part, e_noPart, e_items, e_rng1, e_lc, e_yes, e_fn, e_rho1, e_rho2, e_rho3, e_rho4, e_isi, e_ints, e_CT, e_lenS, e_lenT, e_lenL, e_addI, e_addS, e_addL, e_int, e_intB, e_ixT, e_ixL, e_ixS, e_at0, e_at1, e_at2, e_slT, e_slL, e_slS, e_tail, e_eqS, e_eqI, e_depS, e_depI, e_isiS, e_isiT, e_isiTT, e_isiTS, e_lcN, e_lcC, e_name, e_repl, e_inT, e_inL, e_inS, e_inTab, e_ixTab, e_is, e_isNot, e_eqv, e_nev, e_starts, D.bl.injEq, D.int.injEq, D.str.injEq, D.tup.injEq, exists_eq_left', exists_eq_left, true_and, and_true, and_self, if_true, if_false, ite_true, ite_false, Bool.false_eq_true, Bool.not_true, Bool.not_false, eq_self, List.set_cons_zero, List.set_cons_succ, List.getElem?_cons_zero, List.getElem?_cons_succ, List.length_cons, List.length_nil, List.replicate_zero, List.map_cons, List.map_nil, List.nil_append, List.cons_append, Nat.reduceAdd, Nat.zero_add, noOwn, wipeR, List.all_cons, List.all_nil, List.any_cons, List.any_nil, Bool.and_true, Bool.or_false, Bool.false_or, Bool.and_self, Bool.xor_false, Bool.false_xor, Bool.true_xor, decide_true, Option.some.injEq, e_itT, e_itL, e_itS, e_pl1, e_pl2, e_ty1, e_ty2, e_ok1, e_ok2, e_min, e_one, e_two, e_three, e_nnT, e_nnS, e_fl1, e_fl2, e_fl3, e_starts, e_st2, t_var_pair, t_var_box, t_var_half, t_var_shut, t_var_mark, t_var_mix, t_pair_var, t_pair_box, t_pair_half, t_pair_shut, t_pair_mark, t_pair_mix, t_box_var, t_box_pair, t_box_half, t_box_shut, t_box_mark, t_box_mix, t_half_var, t_half_pair, t_half_box, t_half_shut, t_half_mark, t_half_mix, t_shut_var, t_shut_pair, t_shut_box, t_shut_half, t_shut_mark, t_shut_mix, t_mark_var, t_mark_pair, t_mark_box, t_mark_half, t_mark_shut, t_mark_mix, t_mix_var, t_mix_pair, t_mix_box, t_mix_half, t_mix_shut, t_mix_mark, e_n2, e_n3, Int.reduceNeg, Bool.or_true, i_str_S, i_str_T, i_str_L, i_str_I, i_int_S, i_int_T, i_int_L, i_int_I, i_bool_S, i_bool_T, i_bool_L, i_bool_I, i_list_S, i_list_T, i_list_L, i_list_I, i_tuple_S, i_tuple_T, i_tuple_L, i_tuple_I, i_dict_S, i_dict_T, i_dict_L, i_dict_I, e_ty_int, e_ty_bool, e_ty_list, e_ty_dict, e_isi2, e_pl3, e_pl4, e_eqB, e_depB, e_ok3, e_r2, e_r3, e_r0, e_for, e_i1, e_p2, e_n0, e_n4, e_ln0, e_ln1, Int.reduceEq, Int.reduceLT, Int.reduceLE, decide_false, Option.isSome_some, Option.isSome_none, Bool.or_self, Bool.true_or, ↓reduceIte, eq_tn]
    refine ⟨.inr deep1, sp_sum1 (sp_max1 ?_)⟩
    simp only [e_seq, e_next, e_ret, e_retN, e_if, e_asg, e_own, e_drop, e_c, e_var0, e_varS, e_op, e_test, e_and, e_or, e_not, e_andV, e_orV, e_notV, e_ifE, e_chain, e_nil, e_cons, e_tup, e_lst, e_cb, e_call, e_sl, e_part, e_noPart, e_items, e_rng1, e_lc, e_yes, e_fn, e_rho1, e_rho2, e_rho3, e_rho4, e_isi, e_ints, e_CT, e_lenS, e_lenT, e_lenL, e_addI, e_addS, e_addL, e_int, e_intB, e_ixT, e_ixL, e_ixS, e_at0, e_at1, e_at2, e_slT, e_slL, e_slS, e_tail, e_eqS, e_eqI, e_depS, e_depI, e_isiS, e_isiT, e_isiTT, e_isiTS, e_lcN, e_lcC, e_name, e_repl, e_inT, e_inL, e_inS, e_inTab, e_ixTab, e_is, e_isNot, e_eqv, e_nev, e_starts, D.bl.injEq, D.int.injEq, D.str.injEq, D.tup.injEq, exists_eq_left', exists_eq_left, true_and, and_true, and_self, if_true, if_false, ite_true, ite_false, Bool.false_eq_true, Bool.not_true, Bool.not_false, eq_self, List.set_cons_zero, List.set_cons_succ, List.getElem?_cons_zero, List.getElem?_cons_succ, List.length_cons, List.length_nil, List.replicate_zero, List.map_cons, List.map_nil, List.nil_append, List.cons_append, Nat.reduceAdd, Nat.zero_add, noOwn, wipeR, List.all_cons, List.all_nil, List.any_cons, List.any_nil, Bool.and_true, Bool.or_false, Bool.false_or, Bool.and_self, Bool.xor_false, Bool.false_xor, Bool.true_xor, decide_true, Option.some.injEq, e_itT, e_itL, e_itS, e_pl1, e_pl2, e_ty1, e_ty2, e_ok1, e_ok2, e_min, e_one, e_two, e_three, e_nnT, e_nnS, e_fl1, e_fl2, e_fl3, e_starts, e_st2, t_var_pair, t_var_box, t_var_half, t_var_shut, t_var_mark, t_var_mix, t_pair_var, t_pair_box, t_pair_half, t_pair_shut, t_pair_mark, t_pair_mix, t_box_var, t_box_pair, t_box_half, t_box_shut, t_box_mark, t_box_mix, t_half_var, t_half_pair, t_half_box, t_half_shut, t_half_mark, t_half_mix, t_shut_var, t_shut_pair, t_shut_box, t_shut_half, t_shut_mark, t_shut_mix, t_mark_var, t_mark_pair, t_mark_box, t_mark_half, t_mark_shut, t_mark_mix, t_mix_var, t_mix_pair, t_mix_box, t_mix_half, t_mix_shut, t_mix_mark, e_n2, e_n3, Int.reduceNeg, Bool.or_true, i_str_S, i_str_T, i_str_L, i_str_I, i_int_S, i_int_T, i_int_L, i_int_I, i_bool_S, i_bool_T, i_bool_L, i_bool_I, i_list_S, i_list_T, i_list_L, i_list_I, i_tuple_S, i_tuple_T, i_tuple_L, i_tuple_I, i_dict_S, i_dict_T, i_dict_L, i_dict_I, e_ty_int, e_ty_bool, e_ty_list, e_ty_dict, e_isi2, e_pl3, e_pl4, e_eqB, e_depB, e_ok3, e_r2, e_r3, e_r0, e_for, e_i1, e_p2, e_n0, e_n4, e_ln0, e_ln1, Int.reduceEq, Int.reduceLT, Int.reduceLE, decide_false, Option.isSome_some, Option.isSome_none, Bool.or_self, Bool.true_or, ↓reduceIte]
    exact q
theorem sp_has_form {t : Tm} (h : t.ok) (hd : t.depth ≤ 12) (hs : t.size ≤ 40) (q : Q (.bl true)) : m_has_form [t.d, .bl false] Xd Q := by
  simp only [e_seq, e_next, e_ret, e_retN, e_if, e_asg, e_own, e_drop, e_c, e_var0, e_varS, e_op, e_test, e_and, e_or, e_not, e_andV, e_orV, e_notV, e_ifE, e_chain, e_nil, e_cons, e_tup, e_lst, e_cb, e_call, e_sl, e_part, e_noPart, e_items, e_rng1, e_lc, e_yes, e_fn, e_rho1, e_rho2, e_rho3, e_rho4, e_isi, e_ints, e_CT, e_lenS, e_lenT, e_lenL, e_addI, e_addS, e_addL, e_int, e_intB, e_ixT, e_ixL, e_ixS, e_at0, e_at1, e_at2, e_slT, e_slL, e_slS, e_tail, e_eqS, e_eqI, e_depS, e_depI, e_isiS, e_isiT, e_isiTT, e_isiTS, e_lcN, e_lcC, e_name, e_repl, e_inT, e_inL, e_inS, e_inTab, e_ixTab, e_is, e_isNot, e_eqv, e_nev, e_starts, D.bl.injEq, D.int.injEq, D.str.injEq, D.tup.injEq, exists_eq_left', exists_eq_left, true_and, and_true, and_self, if_true, if_false, ite_true, ite_false, Bool.false_eq_true, Bool.not_true, Bool.not_false, eq_self, List.set_cons_zero, List.set_cons_succ, List.getElem?_cons_zero, List.getElem?_cons_succ, List.length_cons, List.length_nil, List.replicate_zero, List.map_cons, List.map_nil, List.nil_append, List.cons_append, Nat.reduceAdd, Nat.zero_add, noOwn, wipeR, List.all_cons, List.all_nil, List.any_cons, List.any_nil, Bool.and_true, Bool.or_false, Bool.false_or, Bool.and_self, Bool.xor_false, Bool.false_xor, Bool.true_xor, decide_true, Option.some.injEq, e_itT, e_itL, e_itS, e_pl1, e_pl2, e_ty1, e_ty2, e_ok1, e_ok2, e_min, e_one, e_two, e_three, e_nnT, e_nnS, e_fl1, e_fl2, e_fl3, e_starts, e_st2, t_var_pair, t_var_box, t_var_half, t_var_shut, t_var_mark, t_var_mix, t_pair_var, t_pair_box, t_pair_half, t_pair_shut, t_pair_mark, t_pair_mix, t_box_var, t_box_pair, t_box_half, t_box_shut, t_box_mark, t_box_mix, t_half_var, t_half_pair, t_half_box, t_half_shut, t_half_mark, t_half_mix, t_shut_var, t_shut_pair, t_shut_box, t_shut_half, t_shut_mark, t_shut_mix, t_mark_var, t_mark_pair, t_mark_box, t_mark_half, t_mark_shut, t_mark_mix, t_mix_var, t_mix_pair, t_mix_box, t_mix_half, t_mix_shut, t_mix_mark, e_n2, e_n3, Int.reduceNeg, Bool.or_true, i_str_S, i_str_T, i_str_L, i_str_I, i_int_S, i_int_T, i_int_L, i_int_I, i_bool_S, i_bool_T, i_bool_L, i_bool_I, i_list_S, i_list_T, i_list_L, i_list_I, i_tuple_S, i_tuple_T, i_tuple_L, i_tuple_I, i_dict_S, i_dict_T, i_dict_L, i_dict_I, e_ty_int, e_ty_bool, e_ty_list, e_ty_dict, e_isi2, e_pl3, e_pl4, e_eqB, e_depB, e_ok3, e_r2, e_r3, e_r0, e_for, e_i1, e_p2, e_n0, e_n4, e_ln0, e_ln1, Int.reduceEq, Int.reduceLT, Int.reduceLE, decide_false, Option.isSome_some, Option.isSome_none, Bool.or_self, Bool.true_or, ↓reduceIte, m_has_form]
  refine sp_measure t 13 12 _ _ h hd (by omega) ?_
  have e : decide (t.size ≤ 40) = true := decide_eq_true hs
  simp only [e_seq, e_next, e_ret, e_retN, e_if, e_asg, e_own, e_drop, e_c, e_var0, e_varS, e_op, e_test, e_and, e_or, e_not, e_andV, e_orV, e_notV, e_ifE, e_chain, e_nil, e_cons, e_tup, e_lst, e_cb, e_call, e_sl, e_part, e_noPart, e_items, e_rng1, e_lc, e_yes, e_fn, e_rho1, e_rho2, e_rho3, e_rho4, e_isi, e_ints, e_CT, e_lenS, e_lenT, e_lenL, e_addI, e_addS, e_addL, e_int, e_intB, e_ixT, e_ixL, e_ixS, e_at0, e_at1, e_at2, e_slT, e_slL, e_slS, e_tail, e_eqS, e_eqI, e_depS, e_depI, e_isiS, e_isiT, e_isiTT, e_isiTS, e_lcN, e_lcC, e_name, e_repl, e_inT, e_inL, e_inS, e_inTab, e_ixTab, e_is, e_isNot, e_eqv, e_nev, e_starts, D.bl.injEq, D.int.injEq, D.str.injEq, D.tup.injEq, exists_eq_left', exists_eq_left, true_and, and_true, and_self, if_true, if_false, ite_true, ite_false, Bool.false_eq_true, Bool.not_true, Bool.not_false, eq_self, List.set_cons_zero, List.set_cons_succ, List.getElem?_cons_zero, List.getElem?_cons_succ, List.length_cons, List.length_nil, List.replicate_zero, List.map_cons, List.map_nil, List.nil_append, List.cons_append, Nat.reduceAdd, Nat.zero_add, noOwn, wipeR, List.all_cons, List.all_nil, List.any_cons, List.any_nil, Bool.and_true, Bool.or_false, Bool.false_or, Bool.and_self, Bool.xor_false, Bool.false_xor, Bool.true_xor, decide_true, Option.some.injEq, e_itT, e_itL, e_itS, e_pl1, e_pl2, e_ty1, e_ty2, e_ok1, e_ok2, e_min, e_one, e_two, e_three, e_nnT, e_nnS, e_fl1, e_fl2, e_fl3, e_starts, e_st2, t_var_pair, t_var_box, t_var_half, t_var_shut, t_var_mark, t_var_mix, t_pair_var, t_pair_box, t_pair_half, t_pair_shut, t_pair_mark, t_pair_mix, t_box_var, t_box_pair, t_box_half, t_box_shut, t_box_mark, t_box_mix, t_half_var, t_half_pair, t_half_box, t_half_shut, t_half_mark, t_half_mix, t_shut_var, t_shut_pair, t_shut_box, t_shut_half, t_shut_mark, t_shut_mix, t_mark_var, t_mark_pair, t_mark_box, t_mark_half, t_mark_shut, t_mark_mix, t_mix_var, t_mix_pair, t_mix_box, t_mix_half, t_mix_shut, t_mix_mark, e_n2, e_n3, Int.reduceNeg, Bool.or_true, i_str_S, i_str_T, i_str_L, i_str_I, i_int_S, i_int_T, i_int_L, i_int_I, i_bool_S, i_bool_T, i_bool_L, i_bool_I, i_list_S, i_list_T, i_list_L, i_list_I, i_tuple_S, i_tuple_T, i_tuple_L, i_tuple_I, i_dict_S, i_dict_T, i_dict_L, i_dict_I, e_ty_int, e_ty_bool, e_ty_list, e_ty_dict, e_isi2, e_pl3, e_pl4, e_eqB, e_depB, e_ok3, e_r2, e_r3, e_r0, e_for, e_i1, e_p2, e_n0, e_n4, e_ln0, e_ln1, Int.reduceEq, Int.reduceLT, Int.reduceLE, decide_false, Option.isSome_some, Option.isSome_none, Bool.or_self, Bool.true_or, ↓reduceIte, e]
  exact q
theorem sp_is_term {t : Tm} (h : t.ok) (hd : t.depth ≤ 12) (hs : t.size ≤ 40) (q : Q (.bl true)) : m_is_term [t.d] Xd Q := by
  simp only [e_seq, e_next, e_ret, e_retN, e_if, e_asg, e_own, e_drop, e_c, e_var0, e_varS, e_op, e_test, e_and, e_or, e_not, e_andV, e_orV, e_notV, e_ifE, e_chain, e_nil, e_cons, e_tup, e_lst, e_cb, e_call, e_sl, e_part, e_noPart, e_items, e_rng1, e_lc, e_yes, e_fn, e_rho1, e_rho2, e_rho3, e_rho4, e_isi, e_ints, e_CT, e_lenS, e_lenT, e_lenL, e_addI, e_addS, e_addL, e_int, e_intB, e_ixT, e_ixL, e_ixS, e_at0, e_at1, e_at2, e_slT, e_slL, e_slS, e_tail, e_eqS, e_eqI, e_depS, e_depI, e_isiS, e_isiT, e_isiTT, e_isiTS, e_lcN, e_lcC, e_name, e_repl, e_inT, e_inL, e_inS, e_inTab, e_ixTab, e_is, e_isNot, e_eqv, e_nev, e_starts, D.bl.injEq, D.int.injEq, D.str.injEq, D.tup.injEq, exists_eq_left', exists_eq_left, true_and, and_true, and_self, if_true, if_false, ite_true, ite_false, Bool.false_eq_true, Bool.not_true, Bool.not_false, eq_self, List.set_cons_zero, List.set_cons_succ, List.getElem?_cons_zero, List.getElem?_cons_succ, List.length_cons, List.length_nil, List.replicate_zero, List.map_cons, List.map_nil, List.nil_append, List.cons_append, Nat.reduceAdd, Nat.zero_add, noOwn, wipeR, List.all_cons, List.all_nil, List.any_cons, List.any_nil, Bool.and_true, Bool.or_false, Bool.false_or, Bool.and_self, Bool.xor_false, Bool.false_xor, Bool.true_xor, decide_true, Option.some.injEq, e_itT, e_itL, e_itS, e_pl1, e_pl2, e_ty1, e_ty2, e_ok1, e_ok2, e_min, e_one, e_two, e_three, e_nnT, e_nnS, e_fl1, e_fl2, e_fl3, e_starts, e_st2, t_var_pair, t_var_box, t_var_half, t_var_shut, t_var_mark, t_var_mix, t_pair_var, t_pair_box, t_pair_half, t_pair_shut, t_pair_mark, t_pair_mix, t_box_var, t_box_pair, t_box_half, t_box_shut, t_box_mark, t_box_mix, t_half_var, t_half_pair, t_half_box, t_half_shut, t_half_mark, t_half_mix, t_shut_var, t_shut_pair, t_shut_box, t_shut_half, t_shut_mark, t_shut_mix, t_mark_var, t_mark_pair, t_mark_box, t_mark_half, t_mark_shut, t_mark_mix, t_mix_var, t_mix_pair, t_mix_box, t_mix_half, t_mix_shut, t_mix_mark, e_n2, e_n3, Int.reduceNeg, Bool.or_true, i_str_S, i_str_T, i_str_L, i_str_I, i_int_S, i_int_T, i_int_L, i_int_I, i_bool_S, i_bool_T, i_bool_L, i_bool_I, i_list_S, i_list_T, i_list_L, i_list_I, i_tuple_S, i_tuple_T, i_tuple_L, i_tuple_I, i_dict_S, i_dict_T, i_dict_L, i_dict_I, e_ty_int, e_ty_bool, e_ty_list, e_ty_dict, e_isi2, e_pl3, e_pl4, e_eqB, e_depB, e_ok3, e_r2, e_r3, e_r0, e_for, e_i1, e_p2, e_n0, e_n4, e_ln0, e_ln1, Int.reduceEq, Int.reduceLT, Int.reduceLE, decide_false, Option.isSome_some, Option.isSome_none, Bool.or_self, Bool.true_or, ↓reduceIte, m_is_term]
  exact sp_has_form h hd hs q
theorem sp_check_term {t : Tm} (h : t.ok) (hd : t.depth ≤ 12) (hs : t.size ≤ 40) (q : Q .non) : m_check_term [t.d] Xd Q := by
  simp only [e_seq, e_next, e_ret, e_retN, e_if, e_asg, e_own, e_drop, e_c, e_var0, e_varS, e_op, e_test, e_and, e_or, e_not, e_andV, e_orV, e_notV, e_ifE, e_chain, e_nil, e_cons, e_tup, e_lst, e_cb, e_call, e_sl, e_part, e_noPart, e_items, e_rng1, e_lc, e_yes, e_fn, e_rho1, e_rho2, e_rho3, e_rho4, e_isi, e_ints, e_CT, e_lenS, e_lenT, e_lenL, e_addI, e_addS, e_addL, e_int, e_intB, e_ixT, e_ixL, e_ixS, e_at0, e_at1, e_at2, e_slT, e_slL, e_slS, e_tail, e_eqS, e_eqI, e_depS, e_depI, e_isiS, e_isiT, e_isiTT, e_isiTS, e_lcN, e_lcC, e_name, e_repl, e_inT, e_inL, e_inS, e_inTab, e_ixTab, e_is, e_isNot, e_eqv, e_nev, e_starts, D.bl.injEq, D.int.injEq, D.str.injEq, D.tup.injEq, exists_eq_left', exists_eq_left, true_and, and_true, and_self, if_true, if_false, ite_true, ite_false, Bool.false_eq_true, Bool.not_true, Bool.not_false, eq_self, List.set_cons_zero, List.set_cons_succ, List.getElem?_cons_zero, List.getElem?_cons_succ, List.length_cons, List.length_nil, List.replicate_zero, List.map_cons, List.map_nil, List.nil_append, List.cons_append, Nat.reduceAdd, Nat.zero_add, noOwn, wipeR, List.all_cons, List.all_nil, List.any_cons, List.any_nil, Bool.and_true, Bool.or_false, Bool.false_or, Bool.and_self, Bool.xor_false, Bool.false_xor, Bool.true_xor, decide_true, Option.some.injEq, e_itT, e_itL, e_itS, e_pl1, e_pl2, e_ty1, e_ty2, e_ok1, e_ok2, e_min, e_one, e_two, e_three, e_nnT, e_nnS, e_fl1, e_fl2, e_fl3, e_starts, e_st2, t_var_pair, t_var_box, t_var_half, t_var_shut, t_var_mark, t_var_mix, t_pair_var, t_pair_box, t_pair_half, t_pair_shut, t_pair_mark, t_pair_mix, t_box_var, t_box_pair, t_box_half, t_box_shut, t_box_mark, t_box_mix, t_half_var, t_half_pair, t_half_box, t_half_shut, t_half_mark, t_half_mix, t_shut_var, t_shut_pair, t_shut_box, t_shut_half, t_shut_mark, t_shut_mix, t_mark_var, t_mark_pair, t_mark_box, t_mark_half, t_mark_shut, t_mark_mix, t_mix_var, t_mix_pair, t_mix_box, t_mix_half, t_mix_shut, t_mix_mark, e_n2, e_n3, Int.reduceNeg, Bool.or_true, i_str_S, i_str_T, i_str_L, i_str_I, i_int_S, i_int_T, i_int_L, i_int_I, i_bool_S, i_bool_T, i_bool_L, i_bool_I, i_list_S, i_list_T, i_list_L, i_list_I, i_tuple_S, i_tuple_T, i_tuple_L, i_tuple_I, i_dict_S, i_dict_T, i_dict_L, i_dict_I, e_ty_int, e_ty_bool, e_ty_list, e_ty_dict, e_isi2, e_pl3, e_pl4, e_eqB, e_depB, e_ok3, e_r2, e_r3, e_r0, e_for, e_i1, e_p2, e_n0, e_n4, e_ln0, e_ln1, Int.reduceEq, Int.reduceLT, Int.reduceLE, decide_false, Option.isSome_some, Option.isSome_none, Bool.or_self, Bool.true_or, ↓reduceIte, m_check_term]
  refine sp_is_term h hd hs ?_
  simp only [e_seq, e_next, e_ret, e_retN, e_if, e_asg, e_own, e_drop, e_c, e_var0, e_varS, e_op, e_test, e_and, e_or, e_not, e_andV, e_orV, e_notV, e_ifE, e_chain, e_nil, e_cons, e_tup, e_lst, e_cb, e_call, e_sl, e_part, e_noPart, e_items, e_rng1, e_lc, e_yes, e_fn, e_rho1, e_rho2, e_rho3, e_rho4, e_isi, e_ints, e_CT, e_lenS, e_lenT, e_lenL, e_addI, e_addS, e_addL, e_int, e_intB, e_ixT, e_ixL, e_ixS, e_at0, e_at1, e_at2, e_slT, e_slL, e_slS, e_tail, e_eqS, e_eqI, e_depS, e_depI, e_isiS, e_isiT, e_isiTT, e_isiTS, e_lcN, e_lcC, e_name, e_repl, e_inT, e_inL, e_inS, e_inTab, e_ixTab, e_is, e_isNot, e_eqv, e_nev, e_starts, D.bl.injEq, D.int.injEq, D.str.injEq, D.tup.injEq, exists_eq_left', exists_eq_left, true_and, and_true, and_self, if_true, if_false, ite_true, ite_false, Bool.false_eq_true, Bool.not_true, Bool.not_false, eq_self, List.set_cons_zero, List.set_cons_succ, List.getElem?_cons_zero, List.getElem?_cons_succ, List.length_cons, List.length_nil, List.replicate_zero, List.map_cons, List.map_nil, List.nil_append, List.cons_append, Nat.reduceAdd, Nat.zero_add, noOwn, wipeR, List.all_cons, List.all_nil, List.any_cons, List.any_nil, Bool.and_true, Bool.or_false, Bool.false_or, Bool.and_self, Bool.xor_false, Bool.false_xor, Bool.true_xor, decide_true, Option.some.injEq, e_itT, e_itL, e_itS, e_pl1, e_pl2, e_ty1, e_ty2, e_ok1, e_ok2, e_min, e_one, e_two, e_three, e_nnT, e_nnS, e_fl1, e_fl2, e_fl3, e_starts, e_st2, t_var_pair, t_var_box, t_var_half, t_var_shut, t_var_mark, t_var_mix, t_pair_var, t_pair_box, t_pair_half, t_pair_shut, t_pair_mark, t_pair_mix, t_box_var, t_box_pair, t_box_half, t_box_shut, t_box_mark, t_box_mix, t_half_var, t_half_pair, t_half_box, t_half_shut, t_half_mark, t_half_mix, t_shut_var, t_shut_pair, t_shut_box, t_shut_half, t_shut_mark, t_shut_mix, t_mark_var, t_mark_pair, t_mark_box, t_mark_half, t_mark_shut, t_mark_mix, t_mix_var, t_mix_pair, t_mix_box, t_mix_half, t_mix_shut, t_mix_mark, e_n2, e_n3, Int.reduceNeg, Bool.or_true, i_str_S, i_str_T, i_str_L, i_str_I, i_int_S, i_int_T, i_int_L, i_int_I, i_bool_S, i_bool_T, i_bool_L, i_bool_I, i_list_S, i_list_T, i_list_L, i_list_I, i_tuple_S, i_tuple_T, i_tuple_L, i_tuple_I, i_dict_S, i_dict_T, i_dict_L, i_dict_I, e_ty_int, e_ty_bool, e_ty_list, e_ty_dict, e_isi2, e_pl3, e_pl4, e_eqB, e_depB, e_ok3, e_r2, e_r3, e_r0, e_for, e_i1, e_p2, e_n0, e_n4, e_ln0, e_ln1, Int.reduceEq, Int.reduceLT, Int.reduceLE, decide_false, Option.isSome_some, Option.isSome_none, Bool.or_self, Bool.true_or, ↓reduceIte]
  exact q
theorem k_lp : Str.ofString "(" = St [40] := by kernel_rfl
theorem k_and : Str.ofString " & " = St [32, 38, 32] := by kernel_rfl
theorem k_rp : Str.ofString ")" = St [41] := by kernel_rfl
theorem k_lb : Str.ofString "[" = St [91] := by kernel_rfl
theorem k_rb : Str.ofString "]" = St [93] := by kernel_rfl
theorem k_lt : Str.ofString "<" = St [60] := by kernel_rfl
theorem k_gt : Str.ofString ">" = St [62] := by kernel_rfl
theorem k_rl : Str.ofString "]<" = St [93, 60] := by kernel_rfl
theorem k_lc : Str.ofString "{" = St [123] := by kernel_rfl
theorem k_rc : Str.ofString "}" = St [125] := by kernel_rfl
theorem k_ex : Str.ofString "!" = St [33] := by kernel_rfl
theorem k_half : Str.ofString "half " = St [104, 97, 108, 102, 32] := by kernel_rfl
theorem k_mix : Str.ofString "mix(" = St [109, 105, 120, 40] := by kernel_rfl
theorem shape (a : Tm) : (∃ s, a = .nm s) ∨ ∃ tag l, a.d = .tup (.str tag :: l) ∧ decide (tag = Str.ofString "var") = false ∧ Tm.key a.wd a = [60] ++ a.wd ++ [62] := by
  cases a with
  | nm s => exact .inl ⟨s, rfl⟩
  | pair a b => exact .inr ⟨_, _, rfl, t_pair_var, rfl⟩
  | box a b => exact .inr ⟨_, _, rfl, t_box_var, rfl⟩
  | half s => exact .inr ⟨_, _, rfl, t_half_var, rfl⟩
  | shut s a => exact .inr ⟨_, _, rfl, t_shut_var, rfl⟩
  | mark s a => exact .inr ⟨_, _, rfl, t_mark_var, rfl⟩
  | mix a => exact .inr ⟨_, _, rfl, t_mix_var, rfl⟩
theorem sp_m_spelled : ∀ (t : Tm) (n : Nat) (Xd : Err → Prop) (Q : D → Prop), t.ok → t.depth ≤ 12 → t.depth ≤ n → Q (.str (St t.wd)) → m_spelled n [t.d] Xd Q
  | t, 0, Xd, Q, h, hd, hn, q => by
    have := Tm.dpos t
    omega
  | .nm s, n + 1, Xd, Q, h, hd, hn, q => by
    simp only [e_seq, e_next, e_ret, e_retN, e_if, e_asg, e_own, e_drop, e_c, e_var0, e_varS, e_op, e_test, e_and, e_or, e_not, e_andV, e_orV, e_notV, e_ifE, e_chain, e_nil, e_cons, e_tup, e_lst, e_cb, e_call, e_sl, e_part, e_noPart, e_items, e_rng1, e_lc, e_yes, e_fn, e_rho1, e_rho2, e_rho3, e_rho4, e_isi, e_ints, e_CT, e_lenS, e_lenT, e_lenL, e_addI, e_addS, e_addL, e_int, e_intB, e_ixT, e_ixL, e_ixS, e_at0, e_at1, e_at2, e_slT, e_slL, e_slS, e_tail, e_eqS, e_eqI, e_depS, e_depI, e_isiS, e_isiT, e_isiTT, e_isiTS, e_lcN, e_lcC, e_name, e_repl, e_inT, e_inL, e_inS, e_inTab, e_ixTab, e_is, e_isNot, e_eqv, e_nev, e_starts, D.bl.injEq, D.int.injEq, D.str.injEq, D.tup.injEq, exists_eq_left', exists_eq_left, true_and, and_true, and_self, if_true, if_false, ite_true, ite_false, Bool.false_eq_true, Bool.not_true, Bool.not_false, eq_self, List.set_cons_zero, List.set_cons_succ, List.getElem?_cons_zero, List.getElem?_cons_succ, List.length_cons, List.length_nil, List.replicate_zero, List.map_cons, List.map_nil, List.nil_append, List.cons_append, Nat.reduceAdd, Nat.zero_add, noOwn, wipeR, List.all_cons, List.all_nil, List.any_cons, List.any_nil, Bool.and_true, Bool.or_false, Bool.false_or, Bool.and_self, Bool.xor_false, Bool.false_xor, Bool.true_xor, decide_true, Option.some.injEq, e_itT, e_itL, e_itS, e_pl1, e_pl2, e_ty1, e_ty2, e_ok1, e_ok2, e_min, e_one, e_two, e_three, e_nnT, e_nnS, e_fl1, e_fl2, e_fl3, e_starts, e_st2, t_var_pair, t_var_box, t_var_half, t_var_shut, t_var_mark, t_var_mix, t_pair_var, t_pair_box, t_pair_half, t_pair_shut, t_pair_mark, t_pair_mix, t_box_var, t_box_pair, t_box_half, t_box_shut, t_box_mark, t_box_mix, t_half_var, t_half_pair, t_half_box, t_half_shut, t_half_mark, t_half_mix, t_shut_var, t_shut_pair, t_shut_box, t_shut_half, t_shut_mark, t_shut_mix, t_mark_var, t_mark_pair, t_mark_box, t_mark_half, t_mark_shut, t_mark_mix, t_mix_var, t_mix_pair, t_mix_box, t_mix_half, t_mix_shut, t_mix_mark, e_n2, e_n3, Int.reduceNeg, Bool.or_true, i_str_S, i_str_T, i_str_L, i_str_I, i_int_S, i_int_T, i_int_L, i_int_I, i_bool_S, i_bool_T, i_bool_L, i_bool_I, i_list_S, i_list_T, i_list_L, i_list_I, i_tuple_S, i_tuple_T, i_tuple_L, i_tuple_I, i_dict_S, i_dict_T, i_dict_L, i_dict_I, e_ty_int, e_ty_bool, e_ty_list, e_ty_dict, e_isi2, e_pl3, e_pl4, e_eqB, e_depB, e_ok3, e_r2, e_r3, e_r0, e_for, e_i1, e_p2, e_n0, e_n4, e_ln0, e_ln1, Int.reduceEq, Int.reduceLT, Int.reduceLE, decide_false, Option.isSome_some, Option.isSome_none, Bool.or_self, Bool.true_or, ↓reduceIte, m_spelled, Tm.d]
    exact q
  | .pair a b, n + 1, Xd, Q, h, hd, hn, q => by
    have w1 := Tm.okw h hd
    simp only [Tm.wd] at w1 q
    simp only [Tm.depth] at hd hn
    simp only [e_seq, e_next, e_ret, e_retN, e_if, e_asg, e_own, e_drop, e_c, e_var0, e_varS, e_op, e_test, e_and, e_or, e_not, e_andV, e_orV, e_notV, e_ifE, e_chain, e_nil, e_cons, e_tup, e_lst, e_cb, e_call, e_sl, e_part, e_noPart, e_items, e_rng1, e_lc, e_yes, e_fn, e_rho1, e_rho2, e_rho3, e_rho4, e_isi, e_ints, e_CT, e_lenS, e_lenT, e_lenL, e_addI, e_addS, e_addL, e_int, e_intB, e_ixT, e_ixL, e_ixS, e_at0, e_at1, e_at2, e_slT, e_slL, e_slS, e_tail, e_eqS, e_eqI, e_depS, e_depI, e_isiS, e_isiT, e_isiTT, e_isiTS, e_lcN, e_lcC, e_name, e_repl, e_inT, e_inL, e_inS, e_inTab, e_ixTab, e_is, e_isNot, e_eqv, e_nev, e_starts, D.bl.injEq, D.int.injEq, D.str.injEq, D.tup.injEq, exists_eq_left', exists_eq_left, true_and, and_true, and_self, if_true, if_false, ite_true, ite_false, Bool.false_eq_true, Bool.not_true, Bool.not_false, eq_self, List.set_cons_zero, List.set_cons_succ, List.getElem?_cons_zero, List.getElem?_cons_succ, List.length_cons, List.length_nil, List.replicate_zero, List.map_cons, List.map_nil, List.nil_append, List.cons_append, Nat.reduceAdd, Nat.zero_add, noOwn, wipeR, List.all_cons, List.all_nil, List.any_cons, List.any_nil, Bool.and_true, Bool.or_false, Bool.false_or, Bool.and_self, Bool.xor_false, Bool.false_xor, Bool.true_xor, decide_true, Option.some.injEq, e_itT, e_itL, e_itS, e_pl1, e_pl2, e_ty1, e_ty2, e_ok1, e_ok2, e_min, e_one, e_two, e_three, e_nnT, e_nnS, e_fl1, e_fl2, e_fl3, e_starts, e_st2, t_var_pair, t_var_box, t_var_half, t_var_shut, t_var_mark, t_var_mix, t_pair_var, t_pair_box, t_pair_half, t_pair_shut, t_pair_mark, t_pair_mix, t_box_var, t_box_pair, t_box_half, t_box_shut, t_box_mark, t_box_mix, t_half_var, t_half_pair, t_half_box, t_half_shut, t_half_mark, t_half_mix, t_shut_var, t_shut_pair, t_shut_box, t_shut_half, t_shut_mark, t_shut_mix, t_mark_var, t_mark_pair, t_mark_box, t_mark_half, t_mark_shut, t_mark_mix, t_mix_var, t_mix_pair, t_mix_box, t_mix_half, t_mix_shut, t_mix_mark, e_n2, e_n3, Int.reduceNeg, Bool.or_true, i_str_S, i_str_T, i_str_L, i_str_I, i_int_S, i_int_T, i_int_L, i_int_I, i_bool_S, i_bool_T, i_bool_L, i_bool_I, i_list_S, i_list_T, i_list_L, i_list_I, i_tuple_S, i_tuple_T, i_tuple_L, i_tuple_I, i_dict_S, i_dict_T, i_dict_L, i_dict_I, e_ty_int, e_ty_bool, e_ty_list, e_ty_dict, e_isi2, e_pl3, e_pl4, e_eqB, e_depB, e_ok3, e_r2, e_r3, e_r0, e_for, e_i1, e_p2, e_n0, e_n4, e_ln0, e_ln1, Int.reduceEq, Int.reduceLT, Int.reduceLE, decide_false, Option.isSome_some, Option.isSome_none, Bool.or_self, Bool.true_or, ↓reduceIte, m_spelled, Tm.d]
    refine sp_m_spelled a n _ _ h.1 (by omega) (by omega) ?_
    refine sp_m_spelled b n _ _ h.2 (by omega) (by omega) ?_
    simp only [e_seq, e_next, e_ret, e_retN, e_if, e_asg, e_own, e_drop, e_c, e_var0, e_varS, e_op, e_test, e_and, e_or, e_not, e_andV, e_orV, e_notV, e_ifE, e_chain, e_nil, e_cons, e_tup, e_lst, e_cb, e_call, e_sl, e_part, e_noPart, e_items, e_rng1, e_lc, e_yes, e_fn, e_rho1, e_rho2, e_rho3, e_rho4, e_isi, e_ints, e_CT, e_lenS, e_lenT, e_lenL, e_addI, e_addS, e_addL, e_int, e_intB, e_ixT, e_ixL, e_ixS, e_at0, e_at1, e_at2, e_slT, e_slL, e_slS, e_tail, e_eqS, e_eqI, e_depS, e_depI, e_isiS, e_isiT, e_isiTT, e_isiTS, e_lcN, e_lcC, e_name, e_repl, e_inT, e_inL, e_inS, e_inTab, e_ixTab, e_is, e_isNot, e_eqv, e_nev, e_starts, D.bl.injEq, D.int.injEq, D.str.injEq, D.tup.injEq, exists_eq_left', exists_eq_left, true_and, and_true, and_self, if_true, if_false, ite_true, ite_false, Bool.false_eq_true, Bool.not_true, Bool.not_false, eq_self, List.set_cons_zero, List.set_cons_succ, List.getElem?_cons_zero, List.getElem?_cons_succ, List.length_cons, List.length_nil, List.replicate_zero, List.map_cons, List.map_nil, List.nil_append, List.cons_append, Nat.reduceAdd, Nat.zero_add, noOwn, wipeR, List.all_cons, List.all_nil, List.any_cons, List.any_nil, Bool.and_true, Bool.or_false, Bool.false_or, Bool.and_self, Bool.xor_false, Bool.false_xor, Bool.true_xor, decide_true, Option.some.injEq, e_itT, e_itL, e_itS, e_pl1, e_pl2, e_ty1, e_ty2, e_ok1, e_ok2, e_min, e_one, e_two, e_three, e_nnT, e_nnS, e_fl1, e_fl2, e_fl3, e_starts, e_st2, t_var_pair, t_var_box, t_var_half, t_var_shut, t_var_mark, t_var_mix, t_pair_var, t_pair_box, t_pair_half, t_pair_shut, t_pair_mark, t_pair_mix, t_box_var, t_box_pair, t_box_half, t_box_shut, t_box_mark, t_box_mix, t_half_var, t_half_pair, t_half_box, t_half_shut, t_half_mark, t_half_mix, t_shut_var, t_shut_pair, t_shut_box, t_shut_half, t_shut_mark, t_shut_mix, t_mark_var, t_mark_pair, t_mark_box, t_mark_half, t_mark_shut, t_mark_mix, t_mix_var, t_mix_pair, t_mix_box, t_mix_half, t_mix_shut, t_mix_mark, e_n2, e_n3, Int.reduceNeg, Bool.or_true, i_str_S, i_str_T, i_str_L, i_str_I, i_int_S, i_int_T, i_int_L, i_int_I, i_bool_S, i_bool_T, i_bool_L, i_bool_I, i_list_S, i_list_T, i_list_L, i_list_I, i_tuple_S, i_tuple_T, i_tuple_L, i_tuple_I, i_dict_S, i_dict_T, i_dict_L, i_dict_I, e_ty_int, e_ty_bool, e_ty_list, e_ty_dict, e_isi2, e_pl3, e_pl4, e_eqB, e_depB, e_ok3, e_r2, e_r3, e_r0, e_for, e_i1, e_p2, e_n0, e_n4, e_ln0, e_ln1, Int.reduceEq, Int.reduceLT, Int.reduceLE, decide_false, Option.isSome_some, Option.isSome_none, Bool.or_self, Bool.true_or, ↓reduceIte, k_lp, k_and, k_rp]
    simp only [St_app]
    exact ⟨okS_pre (okS_pre (okS_pre w1)), okS_pre (okS_pre w1), okS_pre w1, w1, q⟩
  | .box a b, n + 1, Xd, Q, h, hd, hn, q => by
    have w1 := Tm.okw h hd
    simp only [Tm.wd] at w1 q
    simp only [Tm.depth] at hd hn
    simp only [e_seq, e_next, e_ret, e_retN, e_if, e_asg, e_own, e_drop, e_c, e_var0, e_varS, e_op, e_test, e_and, e_or, e_not, e_andV, e_orV, e_notV, e_ifE, e_chain, e_nil, e_cons, e_tup, e_lst, e_cb, e_call, e_sl, e_part, e_noPart, e_items, e_rng1, e_lc, e_yes, e_fn, e_rho1, e_rho2, e_rho3, e_rho4, e_isi, e_ints, e_CT, e_lenS, e_lenT, e_lenL, e_addI, e_addS, e_addL, e_int, e_intB, e_ixT, e_ixL, e_ixS, e_at0, e_at1, e_at2, e_slT, e_slL, e_slS, e_tail, e_eqS, e_eqI, e_depS, e_depI, e_isiS, e_isiT, e_isiTT, e_isiTS, e_lcN, e_lcC, e_name, e_repl, e_inT, e_inL, e_inS, e_inTab, e_ixTab, e_is, e_isNot, e_eqv, e_nev, e_starts, D.bl.injEq, D.int.injEq, D.str.injEq, D.tup.injEq, exists_eq_left', exists_eq_left, true_and, and_true, and_self, if_true, if_false, ite_true, ite_false, Bool.false_eq_true, Bool.not_true, Bool.not_false, eq_self, List.set_cons_zero, List.set_cons_succ, List.getElem?_cons_zero, List.getElem?_cons_succ, List.length_cons, List.length_nil, List.replicate_zero, List.map_cons, List.map_nil, List.nil_append, List.cons_append, Nat.reduceAdd, Nat.zero_add, noOwn, wipeR, List.all_cons, List.all_nil, List.any_cons, List.any_nil, Bool.and_true, Bool.or_false, Bool.false_or, Bool.and_self, Bool.xor_false, Bool.false_xor, Bool.true_xor, decide_true, Option.some.injEq, e_itT, e_itL, e_itS, e_pl1, e_pl2, e_ty1, e_ty2, e_ok1, e_ok2, e_min, e_one, e_two, e_three, e_nnT, e_nnS, e_fl1, e_fl2, e_fl3, e_starts, e_st2, t_var_pair, t_var_box, t_var_half, t_var_shut, t_var_mark, t_var_mix, t_pair_var, t_pair_box, t_pair_half, t_pair_shut, t_pair_mark, t_pair_mix, t_box_var, t_box_pair, t_box_half, t_box_shut, t_box_mark, t_box_mix, t_half_var, t_half_pair, t_half_box, t_half_shut, t_half_mark, t_half_mix, t_shut_var, t_shut_pair, t_shut_box, t_shut_half, t_shut_mark, t_shut_mix, t_mark_var, t_mark_pair, t_mark_box, t_mark_half, t_mark_shut, t_mark_mix, t_mix_var, t_mix_pair, t_mix_box, t_mix_half, t_mix_shut, t_mix_mark, e_n2, e_n3, Int.reduceNeg, Bool.or_true, i_str_S, i_str_T, i_str_L, i_str_I, i_int_S, i_int_T, i_int_L, i_int_I, i_bool_S, i_bool_T, i_bool_L, i_bool_I, i_list_S, i_list_T, i_list_L, i_list_I, i_tuple_S, i_tuple_T, i_tuple_L, i_tuple_I, i_dict_S, i_dict_T, i_dict_L, i_dict_I, e_ty_int, e_ty_bool, e_ty_list, e_ty_dict, e_isi2, e_pl3, e_pl4, e_eqB, e_depB, e_ok3, e_r2, e_r3, e_r0, e_for, e_i1, e_p2, e_n0, e_n4, e_ln0, e_ln1, Int.reduceEq, Int.reduceLT, Int.reduceLE, decide_false, Option.isSome_some, Option.isSome_none, Bool.or_self, Bool.true_or, ↓reduceIte, m_spelled, Tm.d]
    refine sp_m_spelled a n _ _ h.1 (by omega) (by omega) ?_
    refine sp_m_spelled b n _ _ h.2 (by omega) (by omega) ?_
    rcases shape a with ⟨s, rfl⟩ | ⟨tag, l, e1, e2, e3⟩
    · simp only [e_seq, e_next, e_ret, e_retN, e_if, e_asg, e_own, e_drop, e_c, e_var0, e_varS, e_op, e_test, e_and, e_or, e_not, e_andV, e_orV, e_notV, e_ifE, e_chain, e_nil, e_cons, e_tup, e_lst, e_cb, e_call, e_sl, e_part, e_noPart, e_items, e_rng1, e_lc, e_yes, e_fn, e_rho1, e_rho2, e_rho3, e_rho4, e_isi, e_ints, e_CT, e_lenS, e_lenT, e_lenL, e_addI, e_addS, e_addL, e_int, e_intB, e_ixT, e_ixL, e_ixS, e_at0, e_at1, e_at2, e_slT, e_slL, e_slS, e_tail, e_eqS, e_eqI, e_depS, e_depI, e_isiS, e_isiT, e_isiTT, e_isiTS, e_lcN, e_lcC, e_name, e_repl, e_inT, e_inL, e_inS, e_inTab, e_ixTab, e_is, e_isNot, e_eqv, e_nev, e_starts, D.bl.injEq, D.int.injEq, D.str.injEq, D.tup.injEq, exists_eq_left', exists_eq_left, true_and, and_true, and_self, if_true, if_false, ite_true, ite_false, Bool.false_eq_true, Bool.not_true, Bool.not_false, eq_self, List.set_cons_zero, List.set_cons_succ, List.getElem?_cons_zero, List.getElem?_cons_succ, List.length_cons, List.length_nil, List.replicate_zero, List.map_cons, List.map_nil, List.nil_append, List.cons_append, Nat.reduceAdd, Nat.zero_add, noOwn, wipeR, List.all_cons, List.all_nil, List.any_cons, List.any_nil, Bool.and_true, Bool.or_false, Bool.false_or, Bool.and_self, Bool.xor_false, Bool.false_xor, Bool.true_xor, decide_true, Option.some.injEq, e_itT, e_itL, e_itS, e_pl1, e_pl2, e_ty1, e_ty2, e_ok1, e_ok2, e_min, e_one, e_two, e_three, e_nnT, e_nnS, e_fl1, e_fl2, e_fl3, e_starts, e_st2, t_var_pair, t_var_box, t_var_half, t_var_shut, t_var_mark, t_var_mix, t_pair_var, t_pair_box, t_pair_half, t_pair_shut, t_pair_mark, t_pair_mix, t_box_var, t_box_pair, t_box_half, t_box_shut, t_box_mark, t_box_mix, t_half_var, t_half_pair, t_half_box, t_half_shut, t_half_mark, t_half_mix, t_shut_var, t_shut_pair, t_shut_box, t_shut_half, t_shut_mark, t_shut_mix, t_mark_var, t_mark_pair, t_mark_box, t_mark_half, t_mark_shut, t_mark_mix, t_mix_var, t_mix_pair, t_mix_box, t_mix_half, t_mix_shut, t_mix_mark, e_n2, e_n3, Int.reduceNeg, Bool.or_true, i_str_S, i_str_T, i_str_L, i_str_I, i_int_S, i_int_T, i_int_L, i_int_I, i_bool_S, i_bool_T, i_bool_L, i_bool_I, i_list_S, i_list_T, i_list_L, i_list_I, i_tuple_S, i_tuple_T, i_tuple_L, i_tuple_I, i_dict_S, i_dict_T, i_dict_L, i_dict_I, e_ty_int, e_ty_bool, e_ty_list, e_ty_dict, e_isi2, e_pl3, e_pl4, e_eqB, e_depB, e_ok3, e_r2, e_r3, e_r0, e_for, e_i1, e_p2, e_n0, e_n4, e_ln0, e_ln1, Int.reduceEq, Int.reduceLT, Int.reduceLE, decide_false, Option.isSome_some, Option.isSome_none, Bool.or_self, Bool.true_or, ↓reduceIte, k_lb, k_rb, Tm.d]
      simp only [St_app]
      exact ⟨okS_pre (okS_pre w1), okS_pre w1, w1, q⟩
    · rw [e3] at w1 q
      simp only [e_seq, e_next, e_ret, e_retN, e_if, e_asg, e_own, e_drop, e_c, e_var0, e_varS, e_op, e_test, e_and, e_or, e_not, e_andV, e_orV, e_notV, e_ifE, e_chain, e_nil, e_cons, e_tup, e_lst, e_cb, e_call, e_sl, e_part, e_noPart, e_items, e_rng1, e_lc, e_yes, e_fn, e_rho1, e_rho2, e_rho3, e_rho4, e_isi, e_ints, e_CT, e_lenS, e_lenT, e_lenL, e_addI, e_addS, e_addL, e_int, e_intB, e_ixT, e_ixL, e_ixS, e_at0, e_at1, e_at2, e_slT, e_slL, e_slS, e_tail, e_eqS, e_eqI, e_depS, e_depI, e_isiS, e_isiT, e_isiTT, e_isiTS, e_lcN, e_lcC, e_name, e_repl, e_inT, e_inL, e_inS, e_inTab, e_ixTab, e_is, e_isNot, e_eqv, e_nev, e_starts, D.bl.injEq, D.int.injEq, D.str.injEq, D.tup.injEq, exists_eq_left', exists_eq_left, true_and, and_true, and_self, if_true, if_false, ite_true, ite_false, Bool.false_eq_true, Bool.not_true, Bool.not_false, eq_self, List.set_cons_zero, List.set_cons_succ, List.getElem?_cons_zero, List.getElem?_cons_succ, List.length_cons, List.length_nil, List.replicate_zero, List.map_cons, List.map_nil, List.nil_append, List.cons_append, Nat.reduceAdd, Nat.zero_add, noOwn, wipeR, List.all_cons, List.all_nil, List.any_cons, List.any_nil, Bool.and_true, Bool.or_false, Bool.false_or, Bool.and_self, Bool.xor_false, Bool.false_xor, Bool.true_xor, decide_true, Option.some.injEq, e_itT, e_itL, e_itS, e_pl1, e_pl2, e_ty1, e_ty2, e_ok1, e_ok2, e_min, e_one, e_two, e_three, e_nnT, e_nnS, e_fl1, e_fl2, e_fl3, e_starts, e_st2, t_var_pair, t_var_box, t_var_half, t_var_shut, t_var_mark, t_var_mix, t_pair_var, t_pair_box, t_pair_half, t_pair_shut, t_pair_mark, t_pair_mix, t_box_var, t_box_pair, t_box_half, t_box_shut, t_box_mark, t_box_mix, t_half_var, t_half_pair, t_half_box, t_half_shut, t_half_mark, t_half_mix, t_shut_var, t_shut_pair, t_shut_box, t_shut_half, t_shut_mark, t_shut_mix, t_mark_var, t_mark_pair, t_mark_box, t_mark_half, t_mark_shut, t_mark_mix, t_mix_var, t_mix_pair, t_mix_box, t_mix_half, t_mix_shut, t_mix_mark, e_n2, e_n3, Int.reduceNeg, Bool.or_true, i_str_S, i_str_T, i_str_L, i_str_I, i_int_S, i_int_T, i_int_L, i_int_I, i_bool_S, i_bool_T, i_bool_L, i_bool_I, i_list_S, i_list_T, i_list_L, i_list_I, i_tuple_S, i_tuple_T, i_tuple_L, i_tuple_I, i_dict_S, i_dict_T, i_dict_L, i_dict_I, e_ty_int, e_ty_bool, e_ty_list, e_ty_dict, e_isi2, e_pl3, e_pl4, e_eqB, e_depB, e_ok3, e_r2, e_r3, e_r0, e_for, e_i1, e_p2, e_n0, e_n4, e_ln0, e_ln1, Int.reduceEq, Int.reduceLT, Int.reduceLE, decide_false, Option.isSome_some, Option.isSome_none, Bool.or_self, Bool.true_or, ↓reduceIte, k_lb, k_rb, k_lt, k_gt, k_rl, e1, e2]
      simp only [St_app]
      exact ⟨okS_pre (okS_pre w1), okS_pre w1, okS_pre (okS_suf w1), okS_suf w1, w1, q⟩
  | .half s, n + 1, Xd, Q, h, hd, hn, q => by
    have w1 := Tm.okw h hd
    simp only [Tm.wd] at w1 q
    simp only [Tm.depth] at hd hn
    simp only [e_seq, e_next, e_ret, e_retN, e_if, e_asg, e_own, e_drop, e_c, e_var0, e_varS, e_op, e_test, e_and, e_or, e_not, e_andV, e_orV, e_notV, e_ifE, e_chain, e_nil, e_cons, e_tup, e_lst, e_cb, e_call, e_sl, e_part, e_noPart, e_items, e_rng1, e_lc, e_yes, e_fn, e_rho1, e_rho2, e_rho3, e_rho4, e_isi, e_ints, e_CT, e_lenS, e_lenT, e_lenL, e_addI, e_addS, e_addL, e_int, e_intB, e_ixT, e_ixL, e_ixS, e_at0, e_at1, e_at2, e_slT, e_slL, e_slS, e_tail, e_eqS, e_eqI, e_depS, e_depI, e_isiS, e_isiT, e_isiTT, e_isiTS, e_lcN, e_lcC, e_name, e_repl, e_inT, e_inL, e_inS, e_inTab, e_ixTab, e_is, e_isNot, e_eqv, e_nev, e_starts, D.bl.injEq, D.int.injEq, D.str.injEq, D.tup.injEq, exists_eq_left', exists_eq_left, true_and, and_true, and_self, if_true, if_false, ite_true, ite_false, Bool.false_eq_true, Bool.not_true, Bool.not_false, eq_self, List.set_cons_zero, List.set_cons_succ, List.getElem?_cons_zero, List.getElem?_cons_succ, List.length_cons, List.length_nil, List.replicate_zero, List.map_cons, List.map_nil, List.nil_append, List.cons_append, Nat.reduceAdd, Nat.zero_add, noOwn, wipeR, List.all_cons, List.all_nil, List.any_cons, List.any_nil, Bool.and_true, Bool.or_false, Bool.false_or, Bool.and_self, Bool.xor_false, Bool.false_xor, Bool.true_xor, decide_true, Option.some.injEq, e_itT, e_itL, e_itS, e_pl1, e_pl2, e_ty1, e_ty2, e_ok1, e_ok2, e_min, e_one, e_two, e_three, e_nnT, e_nnS, e_fl1, e_fl2, e_fl3, e_starts, e_st2, t_var_pair, t_var_box, t_var_half, t_var_shut, t_var_mark, t_var_mix, t_pair_var, t_pair_box, t_pair_half, t_pair_shut, t_pair_mark, t_pair_mix, t_box_var, t_box_pair, t_box_half, t_box_shut, t_box_mark, t_box_mix, t_half_var, t_half_pair, t_half_box, t_half_shut, t_half_mark, t_half_mix, t_shut_var, t_shut_pair, t_shut_box, t_shut_half, t_shut_mark, t_shut_mix, t_mark_var, t_mark_pair, t_mark_box, t_mark_half, t_mark_shut, t_mark_mix, t_mix_var, t_mix_pair, t_mix_box, t_mix_half, t_mix_shut, t_mix_mark, e_n2, e_n3, Int.reduceNeg, Bool.or_true, i_str_S, i_str_T, i_str_L, i_str_I, i_int_S, i_int_T, i_int_L, i_int_I, i_bool_S, i_bool_T, i_bool_L, i_bool_I, i_list_S, i_list_T, i_list_L, i_list_I, i_tuple_S, i_tuple_T, i_tuple_L, i_tuple_I, i_dict_S, i_dict_T, i_dict_L, i_dict_I, e_ty_int, e_ty_bool, e_ty_list, e_ty_dict, e_isi2, e_pl3, e_pl4, e_eqB, e_depB, e_ok3, e_r2, e_r3, e_r0, e_for, e_i1, e_p2, e_n0, e_n4, e_ln0, e_ln1, Int.reduceEq, Int.reduceLT, Int.reduceLE, decide_false, Option.isSome_some, Option.isSome_none, Bool.or_self, Bool.true_or, ↓reduceIte, m_spelled, Tm.d]
    refine sp_m_spelled (.nm s) n _ _ h (by simp only [Tm.depth]; omega) (by simp only [Tm.depth]; omega) ?_
    simp only [e_seq, e_next, e_ret, e_retN, e_if, e_asg, e_own, e_drop, e_c, e_var0, e_varS, e_op, e_test, e_and, e_or, e_not, e_andV, e_orV, e_notV, e_ifE, e_chain, e_nil, e_cons, e_tup, e_lst, e_cb, e_call, e_sl, e_part, e_noPart, e_items, e_rng1, e_lc, e_yes, e_fn, e_rho1, e_rho2, e_rho3, e_rho4, e_isi, e_ints, e_CT, e_lenS, e_lenT, e_lenL, e_addI, e_addS, e_addL, e_int, e_intB, e_ixT, e_ixL, e_ixS, e_at0, e_at1, e_at2, e_slT, e_slL, e_slS, e_tail, e_eqS, e_eqI, e_depS, e_depI, e_isiS, e_isiT, e_isiTT, e_isiTS, e_lcN, e_lcC, e_name, e_repl, e_inT, e_inL, e_inS, e_inTab, e_ixTab, e_is, e_isNot, e_eqv, e_nev, e_starts, D.bl.injEq, D.int.injEq, D.str.injEq, D.tup.injEq, exists_eq_left', exists_eq_left, true_and, and_true, and_self, if_true, if_false, ite_true, ite_false, Bool.false_eq_true, Bool.not_true, Bool.not_false, eq_self, List.set_cons_zero, List.set_cons_succ, List.getElem?_cons_zero, List.getElem?_cons_succ, List.length_cons, List.length_nil, List.replicate_zero, List.map_cons, List.map_nil, List.nil_append, List.cons_append, Nat.reduceAdd, Nat.zero_add, noOwn, wipeR, List.all_cons, List.all_nil, List.any_cons, List.any_nil, Bool.and_true, Bool.or_false, Bool.false_or, Bool.and_self, Bool.xor_false, Bool.false_xor, Bool.true_xor, decide_true, Option.some.injEq, e_itT, e_itL, e_itS, e_pl1, e_pl2, e_ty1, e_ty2, e_ok1, e_ok2, e_min, e_one, e_two, e_three, e_nnT, e_nnS, e_fl1, e_fl2, e_fl3, e_starts, e_st2, t_var_pair, t_var_box, t_var_half, t_var_shut, t_var_mark, t_var_mix, t_pair_var, t_pair_box, t_pair_half, t_pair_shut, t_pair_mark, t_pair_mix, t_box_var, t_box_pair, t_box_half, t_box_shut, t_box_mark, t_box_mix, t_half_var, t_half_pair, t_half_box, t_half_shut, t_half_mark, t_half_mix, t_shut_var, t_shut_pair, t_shut_box, t_shut_half, t_shut_mark, t_shut_mix, t_mark_var, t_mark_pair, t_mark_box, t_mark_half, t_mark_shut, t_mark_mix, t_mix_var, t_mix_pair, t_mix_box, t_mix_half, t_mix_shut, t_mix_mark, e_n2, e_n3, Int.reduceNeg, Bool.or_true, i_str_S, i_str_T, i_str_L, i_str_I, i_int_S, i_int_T, i_int_L, i_int_I, i_bool_S, i_bool_T, i_bool_L, i_bool_I, i_list_S, i_list_T, i_list_L, i_list_I, i_tuple_S, i_tuple_T, i_tuple_L, i_tuple_I, i_dict_S, i_dict_T, i_dict_L, i_dict_I, e_ty_int, e_ty_bool, e_ty_list, e_ty_dict, e_isi2, e_pl3, e_pl4, e_eqB, e_depB, e_ok3, e_r2, e_r3, e_r0, e_for, e_i1, e_p2, e_n0, e_n4, e_ln0, e_ln1, Int.reduceEq, Int.reduceLT, Int.reduceLE, decide_false, Option.isSome_some, Option.isSome_none, Bool.or_self, Bool.true_or, ↓reduceIte, k_half]
    simp only [St_app]
    exact ⟨w1, q⟩
  | .shut s a, n + 1, Xd, Q, h, hd, hn, q => by
    have w1 := Tm.okw h hd
    simp only [Tm.wd] at w1 q
    simp only [Tm.depth] at hd hn
    simp only [e_seq, e_next, e_ret, e_retN, e_if, e_asg, e_own, e_drop, e_c, e_var0, e_varS, e_op, e_test, e_and, e_or, e_not, e_andV, e_orV, e_notV, e_ifE, e_chain, e_nil, e_cons, e_tup, e_lst, e_cb, e_call, e_sl, e_part, e_noPart, e_items, e_rng1, e_lc, e_yes, e_fn, e_rho1, e_rho2, e_rho3, e_rho4, e_isi, e_ints, e_CT, e_lenS, e_lenT, e_lenL, e_addI, e_addS, e_addL, e_int, e_intB, e_ixT, e_ixL, e_ixS, e_at0, e_at1, e_at2, e_slT, e_slL, e_slS, e_tail, e_eqS, e_eqI, e_depS, e_depI, e_isiS, e_isiT, e_isiTT, e_isiTS, e_lcN, e_lcC, e_name, e_repl, e_inT, e_inL, e_inS, e_inTab, e_ixTab, e_is, e_isNot, e_eqv, e_nev, e_starts, D.bl.injEq, D.int.injEq, D.str.injEq, D.tup.injEq, exists_eq_left', exists_eq_left, true_and, and_true, and_self, if_true, if_false, ite_true, ite_false, Bool.false_eq_true, Bool.not_true, Bool.not_false, eq_self, List.set_cons_zero, List.set_cons_succ, List.getElem?_cons_zero, List.getElem?_cons_succ, List.length_cons, List.length_nil, List.replicate_zero, List.map_cons, List.map_nil, List.nil_append, List.cons_append, Nat.reduceAdd, Nat.zero_add, noOwn, wipeR, List.all_cons, List.all_nil, List.any_cons, List.any_nil, Bool.and_true, Bool.or_false, Bool.false_or, Bool.and_self, Bool.xor_false, Bool.false_xor, Bool.true_xor, decide_true, Option.some.injEq, e_itT, e_itL, e_itS, e_pl1, e_pl2, e_ty1, e_ty2, e_ok1, e_ok2, e_min, e_one, e_two, e_three, e_nnT, e_nnS, e_fl1, e_fl2, e_fl3, e_starts, e_st2, t_var_pair, t_var_box, t_var_half, t_var_shut, t_var_mark, t_var_mix, t_pair_var, t_pair_box, t_pair_half, t_pair_shut, t_pair_mark, t_pair_mix, t_box_var, t_box_pair, t_box_half, t_box_shut, t_box_mark, t_box_mix, t_half_var, t_half_pair, t_half_box, t_half_shut, t_half_mark, t_half_mix, t_shut_var, t_shut_pair, t_shut_box, t_shut_half, t_shut_mark, t_shut_mix, t_mark_var, t_mark_pair, t_mark_box, t_mark_half, t_mark_shut, t_mark_mix, t_mix_var, t_mix_pair, t_mix_box, t_mix_half, t_mix_shut, t_mix_mark, e_n2, e_n3, Int.reduceNeg, Bool.or_true, i_str_S, i_str_T, i_str_L, i_str_I, i_int_S, i_int_T, i_int_L, i_int_I, i_bool_S, i_bool_T, i_bool_L, i_bool_I, i_list_S, i_list_T, i_list_L, i_list_I, i_tuple_S, i_tuple_T, i_tuple_L, i_tuple_I, i_dict_S, i_dict_T, i_dict_L, i_dict_I, e_ty_int, e_ty_bool, e_ty_list, e_ty_dict, e_isi2, e_pl3, e_pl4, e_eqB, e_depB, e_ok3, e_r2, e_r3, e_r0, e_for, e_i1, e_p2, e_n0, e_n4, e_ln0, e_ln1, Int.reduceEq, Int.reduceLT, Int.reduceLE, decide_false, Option.isSome_some, Option.isSome_none, Bool.or_self, Bool.true_or, ↓reduceIte, m_spelled, Tm.d]
    refine sp_m_spelled (.nm s) n _ _ h.1 (by simp only [Tm.depth]; omega) (by simp only [Tm.depth]; omega) ?_
    refine sp_m_spelled a n _ _ h.2 (by omega) (by omega) ?_
    simp only [e_seq, e_next, e_ret, e_retN, e_if, e_asg, e_own, e_drop, e_c, e_var0, e_varS, e_op, e_test, e_and, e_or, e_not, e_andV, e_orV, e_notV, e_ifE, e_chain, e_nil, e_cons, e_tup, e_lst, e_cb, e_call, e_sl, e_part, e_noPart, e_items, e_rng1, e_lc, e_yes, e_fn, e_rho1, e_rho2, e_rho3, e_rho4, e_isi, e_ints, e_CT, e_lenS, e_lenT, e_lenL, e_addI, e_addS, e_addL, e_int, e_intB, e_ixT, e_ixL, e_ixS, e_at0, e_at1, e_at2, e_slT, e_slL, e_slS, e_tail, e_eqS, e_eqI, e_depS, e_depI, e_isiS, e_isiT, e_isiTT, e_isiTS, e_lcN, e_lcC, e_name, e_repl, e_inT, e_inL, e_inS, e_inTab, e_ixTab, e_is, e_isNot, e_eqv, e_nev, e_starts, D.bl.injEq, D.int.injEq, D.str.injEq, D.tup.injEq, exists_eq_left', exists_eq_left, true_and, and_true, and_self, if_true, if_false, ite_true, ite_false, Bool.false_eq_true, Bool.not_true, Bool.not_false, eq_self, List.set_cons_zero, List.set_cons_succ, List.getElem?_cons_zero, List.getElem?_cons_succ, List.length_cons, List.length_nil, List.replicate_zero, List.map_cons, List.map_nil, List.nil_append, List.cons_append, Nat.reduceAdd, Nat.zero_add, noOwn, wipeR, List.all_cons, List.all_nil, List.any_cons, List.any_nil, Bool.and_true, Bool.or_false, Bool.false_or, Bool.and_self, Bool.xor_false, Bool.false_xor, Bool.true_xor, decide_true, Option.some.injEq, e_itT, e_itL, e_itS, e_pl1, e_pl2, e_ty1, e_ty2, e_ok1, e_ok2, e_min, e_one, e_two, e_three, e_nnT, e_nnS, e_fl1, e_fl2, e_fl3, e_starts, e_st2, t_var_pair, t_var_box, t_var_half, t_var_shut, t_var_mark, t_var_mix, t_pair_var, t_pair_box, t_pair_half, t_pair_shut, t_pair_mark, t_pair_mix, t_box_var, t_box_pair, t_box_half, t_box_shut, t_box_mark, t_box_mix, t_half_var, t_half_pair, t_half_box, t_half_shut, t_half_mark, t_half_mix, t_shut_var, t_shut_pair, t_shut_box, t_shut_half, t_shut_mark, t_shut_mix, t_mark_var, t_mark_pair, t_mark_box, t_mark_half, t_mark_shut, t_mark_mix, t_mix_var, t_mix_pair, t_mix_box, t_mix_half, t_mix_shut, t_mix_mark, e_n2, e_n3, Int.reduceNeg, Bool.or_true, i_str_S, i_str_T, i_str_L, i_str_I, i_int_S, i_int_T, i_int_L, i_int_I, i_bool_S, i_bool_T, i_bool_L, i_bool_I, i_list_S, i_list_T, i_list_L, i_list_I, i_tuple_S, i_tuple_T, i_tuple_L, i_tuple_I, i_dict_S, i_dict_T, i_dict_L, i_dict_I, e_ty_int, e_ty_bool, e_ty_list, e_ty_dict, e_isi2, e_pl3, e_pl4, e_eqB, e_depB, e_ok3, e_r2, e_r3, e_r0, e_for, e_i1, e_p2, e_n0, e_n4, e_ln0, e_ln1, Int.reduceEq, Int.reduceLT, Int.reduceLE, decide_false, Option.isSome_some, Option.isSome_none, Bool.or_self, Bool.true_or, ↓reduceIte, k_lc, k_rc]
    simp only [St_app]
    exact ⟨okS_pre (okS_pre w1), okS_pre w1, w1, q⟩
  | .mark s a, n + 1, Xd, Q, h, hd, hn, q => by
    have w1 := Tm.okw h hd
    simp only [Tm.wd] at w1 q
    simp only [Tm.depth] at hd hn
    simp only [e_seq, e_next, e_ret, e_retN, e_if, e_asg, e_own, e_drop, e_c, e_var0, e_varS, e_op, e_test, e_and, e_or, e_not, e_andV, e_orV, e_notV, e_ifE, e_chain, e_nil, e_cons, e_tup, e_lst, e_cb, e_call, e_sl, e_part, e_noPart, e_items, e_rng1, e_lc, e_yes, e_fn, e_rho1, e_rho2, e_rho3, e_rho4, e_isi, e_ints, e_CT, e_lenS, e_lenT, e_lenL, e_addI, e_addS, e_addL, e_int, e_intB, e_ixT, e_ixL, e_ixS, e_at0, e_at1, e_at2, e_slT, e_slL, e_slS, e_tail, e_eqS, e_eqI, e_depS, e_depI, e_isiS, e_isiT, e_isiTT, e_isiTS, e_lcN, e_lcC, e_name, e_repl, e_inT, e_inL, e_inS, e_inTab, e_ixTab, e_is, e_isNot, e_eqv, e_nev, e_starts, D.bl.injEq, D.int.injEq, D.str.injEq, D.tup.injEq, exists_eq_left', exists_eq_left, true_and, and_true, and_self, if_true, if_false, ite_true, ite_false, Bool.false_eq_true, Bool.not_true, Bool.not_false, eq_self, List.set_cons_zero, List.set_cons_succ, List.getElem?_cons_zero, List.getElem?_cons_succ, List.length_cons, List.length_nil, List.replicate_zero, List.map_cons, List.map_nil, List.nil_append, List.cons_append, Nat.reduceAdd, Nat.zero_add, noOwn, wipeR, List.all_cons, List.all_nil, List.any_cons, List.any_nil, Bool.and_true, Bool.or_false, Bool.false_or, Bool.and_self, Bool.xor_false, Bool.false_xor, Bool.true_xor, decide_true, Option.some.injEq, e_itT, e_itL, e_itS, e_pl1, e_pl2, e_ty1, e_ty2, e_ok1, e_ok2, e_min, e_one, e_two, e_three, e_nnT, e_nnS, e_fl1, e_fl2, e_fl3, e_starts, e_st2, t_var_pair, t_var_box, t_var_half, t_var_shut, t_var_mark, t_var_mix, t_pair_var, t_pair_box, t_pair_half, t_pair_shut, t_pair_mark, t_pair_mix, t_box_var, t_box_pair, t_box_half, t_box_shut, t_box_mark, t_box_mix, t_half_var, t_half_pair, t_half_box, t_half_shut, t_half_mark, t_half_mix, t_shut_var, t_shut_pair, t_shut_box, t_shut_half, t_shut_mark, t_shut_mix, t_mark_var, t_mark_pair, t_mark_box, t_mark_half, t_mark_shut, t_mark_mix, t_mix_var, t_mix_pair, t_mix_box, t_mix_half, t_mix_shut, t_mix_mark, e_n2, e_n3, Int.reduceNeg, Bool.or_true, i_str_S, i_str_T, i_str_L, i_str_I, i_int_S, i_int_T, i_int_L, i_int_I, i_bool_S, i_bool_T, i_bool_L, i_bool_I, i_list_S, i_list_T, i_list_L, i_list_I, i_tuple_S, i_tuple_T, i_tuple_L, i_tuple_I, i_dict_S, i_dict_T, i_dict_L, i_dict_I, e_ty_int, e_ty_bool, e_ty_list, e_ty_dict, e_isi2, e_pl3, e_pl4, e_eqB, e_depB, e_ok3, e_r2, e_r3, e_r0, e_for, e_i1, e_p2, e_n0, e_n4, e_ln0, e_ln1, Int.reduceEq, Int.reduceLT, Int.reduceLE, decide_false, Option.isSome_some, Option.isSome_none, Bool.or_self, Bool.true_or, ↓reduceIte, m_spelled, Tm.d]
    refine sp_m_spelled (.nm s) n _ _ h.1 (by simp only [Tm.depth]; omega) (by simp only [Tm.depth]; omega) ?_
    refine sp_m_spelled a n _ _ h.2 (by omega) (by omega) ?_
    simp only [e_seq, e_next, e_ret, e_retN, e_if, e_asg, e_own, e_drop, e_c, e_var0, e_varS, e_op, e_test, e_and, e_or, e_not, e_andV, e_orV, e_notV, e_ifE, e_chain, e_nil, e_cons, e_tup, e_lst, e_cb, e_call, e_sl, e_part, e_noPart, e_items, e_rng1, e_lc, e_yes, e_fn, e_rho1, e_rho2, e_rho3, e_rho4, e_isi, e_ints, e_CT, e_lenS, e_lenT, e_lenL, e_addI, e_addS, e_addL, e_int, e_intB, e_ixT, e_ixL, e_ixS, e_at0, e_at1, e_at2, e_slT, e_slL, e_slS, e_tail, e_eqS, e_eqI, e_depS, e_depI, e_isiS, e_isiT, e_isiTT, e_isiTS, e_lcN, e_lcC, e_name, e_repl, e_inT, e_inL, e_inS, e_inTab, e_ixTab, e_is, e_isNot, e_eqv, e_nev, e_starts, D.bl.injEq, D.int.injEq, D.str.injEq, D.tup.injEq, exists_eq_left', exists_eq_left, true_and, and_true, and_self, if_true, if_false, ite_true, ite_false, Bool.false_eq_true, Bool.not_true, Bool.not_false, eq_self, List.set_cons_zero, List.set_cons_succ, List.getElem?_cons_zero, List.getElem?_cons_succ, List.length_cons, List.length_nil, List.replicate_zero, List.map_cons, List.map_nil, List.nil_append, List.cons_append, Nat.reduceAdd, Nat.zero_add, noOwn, wipeR, List.all_cons, List.all_nil, List.any_cons, List.any_nil, Bool.and_true, Bool.or_false, Bool.false_or, Bool.and_self, Bool.xor_false, Bool.false_xor, Bool.true_xor, decide_true, Option.some.injEq, e_itT, e_itL, e_itS, e_pl1, e_pl2, e_ty1, e_ty2, e_ok1, e_ok2, e_min, e_one, e_two, e_three, e_nnT, e_nnS, e_fl1, e_fl2, e_fl3, e_starts, e_st2, t_var_pair, t_var_box, t_var_half, t_var_shut, t_var_mark, t_var_mix, t_pair_var, t_pair_box, t_pair_half, t_pair_shut, t_pair_mark, t_pair_mix, t_box_var, t_box_pair, t_box_half, t_box_shut, t_box_mark, t_box_mix, t_half_var, t_half_pair, t_half_box, t_half_shut, t_half_mark, t_half_mix, t_shut_var, t_shut_pair, t_shut_box, t_shut_half, t_shut_mark, t_shut_mix, t_mark_var, t_mark_pair, t_mark_box, t_mark_half, t_mark_shut, t_mark_mix, t_mix_var, t_mix_pair, t_mix_box, t_mix_half, t_mix_shut, t_mix_mark, e_n2, e_n3, Int.reduceNeg, Bool.or_true, i_str_S, i_str_T, i_str_L, i_str_I, i_int_S, i_int_T, i_int_L, i_int_I, i_bool_S, i_bool_T, i_bool_L, i_bool_I, i_list_S, i_list_T, i_list_L, i_list_I, i_tuple_S, i_tuple_T, i_tuple_L, i_tuple_I, i_dict_S, i_dict_T, i_dict_L, i_dict_I, e_ty_int, e_ty_bool, e_ty_list, e_ty_dict, e_isi2, e_pl3, e_pl4, e_eqB, e_depB, e_ok3, e_r2, e_r3, e_r0, e_for, e_i1, e_p2, e_n0, e_n4, e_ln0, e_ln1, Int.reduceEq, Int.reduceLT, Int.reduceLE, decide_false, Option.isSome_some, Option.isSome_none, Bool.or_self, Bool.true_or, ↓reduceIte, k_lp, k_ex, k_rp]
    simp only [St_app]
    exact ⟨okS_pre (okS_pre (okS_pre w1)), okS_pre (okS_pre w1), okS_pre w1, w1, q⟩
  | .mix a, n + 1, Xd, Q, h, hd, hn, q => by
    have w1 := Tm.okw h hd
    simp only [Tm.wd] at w1 q
    simp only [Tm.depth] at hd hn
    simp only [e_seq, e_next, e_ret, e_retN, e_if, e_asg, e_own, e_drop, e_c, e_var0, e_varS, e_op, e_test, e_and, e_or, e_not, e_andV, e_orV, e_notV, e_ifE, e_chain, e_nil, e_cons, e_tup, e_lst, e_cb, e_call, e_sl, e_part, e_noPart, e_items, e_rng1, e_lc, e_yes, e_fn, e_rho1, e_rho2, e_rho3, e_rho4, e_isi, e_ints, e_CT, e_lenS, e_lenT, e_lenL, e_addI, e_addS, e_addL, e_int, e_intB, e_ixT, e_ixL, e_ixS, e_at0, e_at1, e_at2, e_slT, e_slL, e_slS, e_tail, e_eqS, e_eqI, e_depS, e_depI, e_isiS, e_isiT, e_isiTT, e_isiTS, e_lcN, e_lcC, e_name, e_repl, e_inT, e_inL, e_inS, e_inTab, e_ixTab, e_is, e_isNot, e_eqv, e_nev, e_starts, D.bl.injEq, D.int.injEq, D.str.injEq, D.tup.injEq, exists_eq_left', exists_eq_left, true_and, and_true, and_self, if_true, if_false, ite_true, ite_false, Bool.false_eq_true, Bool.not_true, Bool.not_false, eq_self, List.set_cons_zero, List.set_cons_succ, List.getElem?_cons_zero, List.getElem?_cons_succ, List.length_cons, List.length_nil, List.replicate_zero, List.map_cons, List.map_nil, List.nil_append, List.cons_append, Nat.reduceAdd, Nat.zero_add, noOwn, wipeR, List.all_cons, List.all_nil, List.any_cons, List.any_nil, Bool.and_true, Bool.or_false, Bool.false_or, Bool.and_self, Bool.xor_false, Bool.false_xor, Bool.true_xor, decide_true, Option.some.injEq, e_itT, e_itL, e_itS, e_pl1, e_pl2, e_ty1, e_ty2, e_ok1, e_ok2, e_min, e_one, e_two, e_three, e_nnT, e_nnS, e_fl1, e_fl2, e_fl3, e_starts, e_st2, t_var_pair, t_var_box, t_var_half, t_var_shut, t_var_mark, t_var_mix, t_pair_var, t_pair_box, t_pair_half, t_pair_shut, t_pair_mark, t_pair_mix, t_box_var, t_box_pair, t_box_half, t_box_shut, t_box_mark, t_box_mix, t_half_var, t_half_pair, t_half_box, t_half_shut, t_half_mark, t_half_mix, t_shut_var, t_shut_pair, t_shut_box, t_shut_half, t_shut_mark, t_shut_mix, t_mark_var, t_mark_pair, t_mark_box, t_mark_half, t_mark_shut, t_mark_mix, t_mix_var, t_mix_pair, t_mix_box, t_mix_half, t_mix_shut, t_mix_mark, e_n2, e_n3, Int.reduceNeg, Bool.or_true, i_str_S, i_str_T, i_str_L, i_str_I, i_int_S, i_int_T, i_int_L, i_int_I, i_bool_S, i_bool_T, i_bool_L, i_bool_I, i_list_S, i_list_T, i_list_L, i_list_I, i_tuple_S, i_tuple_T, i_tuple_L, i_tuple_I, i_dict_S, i_dict_T, i_dict_L, i_dict_I, e_ty_int, e_ty_bool, e_ty_list, e_ty_dict, e_isi2, e_pl3, e_pl4, e_eqB, e_depB, e_ok3, e_r2, e_r3, e_r0, e_for, e_i1, e_p2, e_n0, e_n4, e_ln0, e_ln1, Int.reduceEq, Int.reduceLT, Int.reduceLE, decide_false, Option.isSome_some, Option.isSome_none, Bool.or_self, Bool.true_or, ↓reduceIte, m_spelled, Tm.d]
    refine sp_m_spelled a n _ _ h (by omega) (by omega) ?_
    simp only [e_seq, e_next, e_ret, e_retN, e_if, e_asg, e_own, e_drop, e_c, e_var0, e_varS, e_op, e_test, e_and, e_or, e_not, e_andV, e_orV, e_notV, e_ifE, e_chain, e_nil, e_cons, e_tup, e_lst, e_cb, e_call, e_sl, e_part, e_noPart, e_items, e_rng1, e_lc, e_yes, e_fn, e_rho1, e_rho2, e_rho3, e_rho4, e_isi, e_ints, e_CT, e_lenS, e_lenT, e_lenL, e_addI, e_addS, e_addL, e_int, e_intB, e_ixT, e_ixL, e_ixS, e_at0, e_at1, e_at2, e_slT, e_slL, e_slS, e_tail, e_eqS, e_eqI, e_depS, e_depI, e_isiS, e_isiT, e_isiTT, e_isiTS, e_lcN, e_lcC, e_name, e_repl, e_inT, e_inL, e_inS, e_inTab, e_ixTab, e_is, e_isNot, e_eqv, e_nev, e_starts, D.bl.injEq, D.int.injEq, D.str.injEq, D.tup.injEq, exists_eq_left', exists_eq_left, true_and, and_true, and_self, if_true, if_false, ite_true, ite_false, Bool.false_eq_true, Bool.not_true, Bool.not_false, eq_self, List.set_cons_zero, List.set_cons_succ, List.getElem?_cons_zero, List.getElem?_cons_succ, List.length_cons, List.length_nil, List.replicate_zero, List.map_cons, List.map_nil, List.nil_append, List.cons_append, Nat.reduceAdd, Nat.zero_add, noOwn, wipeR, List.all_cons, List.all_nil, List.any_cons, List.any_nil, Bool.and_true, Bool.or_false, Bool.false_or, Bool.and_self, Bool.xor_false, Bool.false_xor, Bool.true_xor, decide_true, Option.some.injEq, e_itT, e_itL, e_itS, e_pl1, e_pl2, e_ty1, e_ty2, e_ok1, e_ok2, e_min, e_one, e_two, e_three, e_nnT, e_nnS, e_fl1, e_fl2, e_fl3, e_starts, e_st2, t_var_pair, t_var_box, t_var_half, t_var_shut, t_var_mark, t_var_mix, t_pair_var, t_pair_box, t_pair_half, t_pair_shut, t_pair_mark, t_pair_mix, t_box_var, t_box_pair, t_box_half, t_box_shut, t_box_mark, t_box_mix, t_half_var, t_half_pair, t_half_box, t_half_shut, t_half_mark, t_half_mix, t_shut_var, t_shut_pair, t_shut_box, t_shut_half, t_shut_mark, t_shut_mix, t_mark_var, t_mark_pair, t_mark_box, t_mark_half, t_mark_shut, t_mark_mix, t_mix_var, t_mix_pair, t_mix_box, t_mix_half, t_mix_shut, t_mix_mark, e_n2, e_n3, Int.reduceNeg, Bool.or_true, i_str_S, i_str_T, i_str_L, i_str_I, i_int_S, i_int_T, i_int_L, i_int_I, i_bool_S, i_bool_T, i_bool_L, i_bool_I, i_list_S, i_list_T, i_list_L, i_list_I, i_tuple_S, i_tuple_T, i_tuple_L, i_tuple_I, i_dict_S, i_dict_T, i_dict_L, i_dict_I, e_ty_int, e_ty_bool, e_ty_list, e_ty_dict, e_isi2, e_pl3, e_pl4, e_eqB, e_depB, e_ok3, e_r2, e_r3, e_r0, e_for, e_i1, e_p2, e_n0, e_n4, e_ln0, e_ln1, Int.reduceEq, Int.reduceLT, Int.reduceLE, decide_false, Option.isSome_some, Option.isSome_none, Bool.or_self, Bool.true_or, ↓reduceIte, k_mix, k_rp]
    simp only [St_app]
    exact ⟨okS_pre w1, w1, q⟩
theorem sp_m_law_spelled : ∀ (t : Tm) (n : Nat) (Xd : Err → Prop) (Q : D → Prop), t.ok → t.depth ≤ 12 → t.depth ≤ n → Q (.str (St t.wd)) → m_law_spelled n [t.d] Xd Q
  | t, 0, Xd, Q, h, hd, hn, q => by
    have := Tm.dpos t
    omega
  | .nm s, n + 1, Xd, Q, h, hd, hn, q => by
    simp only [e_seq, e_next, e_ret, e_retN, e_if, e_asg, e_own, e_drop, e_c, e_var0, e_varS, e_op, e_test, e_and, e_or, e_not, e_andV, e_orV, e_notV, e_ifE, e_chain, e_nil, e_cons, e_tup, e_lst, e_cb, e_call, e_sl, e_part, e_noPart, e_items, e_rng1, e_lc, e_yes, e_fn, e_rho1, e_rho2, e_rho3, e_rho4, e_isi, e_ints, e_CT, e_lenS, e_lenT, e_lenL, e_addI, e_addS, e_addL, e_int, e_intB, e_ixT, e_ixL, e_ixS, e_at0, e_at1, e_at2, e_slT, e_slL, e_slS, e_tail, e_eqS, e_eqI, e_depS, e_depI, e_isiS, e_isiT, e_isiTT, e_isiTS, e_lcN, e_lcC, e_name, e_repl, e_inT, e_inL, e_inS, e_inTab, e_ixTab, e_is, e_isNot, e_eqv, e_nev, e_starts, D.bl.injEq, D.int.injEq, D.str.injEq, D.tup.injEq, exists_eq_left', exists_eq_left, true_and, and_true, and_self, if_true, if_false, ite_true, ite_false, Bool.false_eq_true, Bool.not_true, Bool.not_false, eq_self, List.set_cons_zero, List.set_cons_succ, List.getElem?_cons_zero, List.getElem?_cons_succ, List.length_cons, List.length_nil, List.replicate_zero, List.map_cons, List.map_nil, List.nil_append, List.cons_append, Nat.reduceAdd, Nat.zero_add, noOwn, wipeR, List.all_cons, List.all_nil, List.any_cons, List.any_nil, Bool.and_true, Bool.or_false, Bool.false_or, Bool.and_self, Bool.xor_false, Bool.false_xor, Bool.true_xor, decide_true, Option.some.injEq, e_itT, e_itL, e_itS, e_pl1, e_pl2, e_ty1, e_ty2, e_ok1, e_ok2, e_min, e_one, e_two, e_three, e_nnT, e_nnS, e_fl1, e_fl2, e_fl3, e_starts, e_st2, t_var_pair, t_var_box, t_var_half, t_var_shut, t_var_mark, t_var_mix, t_pair_var, t_pair_box, t_pair_half, t_pair_shut, t_pair_mark, t_pair_mix, t_box_var, t_box_pair, t_box_half, t_box_shut, t_box_mark, t_box_mix, t_half_var, t_half_pair, t_half_box, t_half_shut, t_half_mark, t_half_mix, t_shut_var, t_shut_pair, t_shut_box, t_shut_half, t_shut_mark, t_shut_mix, t_mark_var, t_mark_pair, t_mark_box, t_mark_half, t_mark_shut, t_mark_mix, t_mix_var, t_mix_pair, t_mix_box, t_mix_half, t_mix_shut, t_mix_mark, e_n2, e_n3, Int.reduceNeg, Bool.or_true, i_str_S, i_str_T, i_str_L, i_str_I, i_int_S, i_int_T, i_int_L, i_int_I, i_bool_S, i_bool_T, i_bool_L, i_bool_I, i_list_S, i_list_T, i_list_L, i_list_I, i_tuple_S, i_tuple_T, i_tuple_L, i_tuple_I, i_dict_S, i_dict_T, i_dict_L, i_dict_I, e_ty_int, e_ty_bool, e_ty_list, e_ty_dict, e_isi2, e_pl3, e_pl4, e_eqB, e_depB, e_ok3, e_r2, e_r3, e_r0, e_for, e_i1, e_p2, e_n0, e_n4, e_ln0, e_ln1, Int.reduceEq, Int.reduceLT, Int.reduceLE, decide_false, Option.isSome_some, Option.isSome_none, Bool.or_self, Bool.true_or, ↓reduceIte, m_law_spelled, Tm.d]
    exact q
  | .pair a b, n + 1, Xd, Q, h, hd, hn, q => by
    have w1 := Tm.okw h hd
    simp only [Tm.wd] at w1 q
    simp only [Tm.depth] at hd hn
    simp only [e_seq, e_next, e_ret, e_retN, e_if, e_asg, e_own, e_drop, e_c, e_var0, e_varS, e_op, e_test, e_and, e_or, e_not, e_andV, e_orV, e_notV, e_ifE, e_chain, e_nil, e_cons, e_tup, e_lst, e_cb, e_call, e_sl, e_part, e_noPart, e_items, e_rng1, e_lc, e_yes, e_fn, e_rho1, e_rho2, e_rho3, e_rho4, e_isi, e_ints, e_CT, e_lenS, e_lenT, e_lenL, e_addI, e_addS, e_addL, e_int, e_intB, e_ixT, e_ixL, e_ixS, e_at0, e_at1, e_at2, e_slT, e_slL, e_slS, e_tail, e_eqS, e_eqI, e_depS, e_depI, e_isiS, e_isiT, e_isiTT, e_isiTS, e_lcN, e_lcC, e_name, e_repl, e_inT, e_inL, e_inS, e_inTab, e_ixTab, e_is, e_isNot, e_eqv, e_nev, e_starts, D.bl.injEq, D.int.injEq, D.str.injEq, D.tup.injEq, exists_eq_left', exists_eq_left, true_and, and_true, and_self, if_true, if_false, ite_true, ite_false, Bool.false_eq_true, Bool.not_true, Bool.not_false, eq_self, List.set_cons_zero, List.set_cons_succ, List.getElem?_cons_zero, List.getElem?_cons_succ, List.length_cons, List.length_nil, List.replicate_zero, List.map_cons, List.map_nil, List.nil_append, List.cons_append, Nat.reduceAdd, Nat.zero_add, noOwn, wipeR, List.all_cons, List.all_nil, List.any_cons, List.any_nil, Bool.and_true, Bool.or_false, Bool.false_or, Bool.and_self, Bool.xor_false, Bool.false_xor, Bool.true_xor, decide_true, Option.some.injEq, e_itT, e_itL, e_itS, e_pl1, e_pl2, e_ty1, e_ty2, e_ok1, e_ok2, e_min, e_one, e_two, e_three, e_nnT, e_nnS, e_fl1, e_fl2, e_fl3, e_starts, e_st2, t_var_pair, t_var_box, t_var_half, t_var_shut, t_var_mark, t_var_mix, t_pair_var, t_pair_box, t_pair_half, t_pair_shut, t_pair_mark, t_pair_mix, t_box_var, t_box_pair, t_box_half, t_box_shut, t_box_mark, t_box_mix, t_half_var, t_half_pair, t_half_box, t_half_shut, t_half_mark, t_half_mix, t_shut_var, t_shut_pair, t_shut_box, t_shut_half, t_shut_mark, t_shut_mix, t_mark_var, t_mark_pair, t_mark_box, t_mark_half, t_mark_shut, t_mark_mix, t_mix_var, t_mix_pair, t_mix_box, t_mix_half, t_mix_shut, t_mix_mark, e_n2, e_n3, Int.reduceNeg, Bool.or_true, i_str_S, i_str_T, i_str_L, i_str_I, i_int_S, i_int_T, i_int_L, i_int_I, i_bool_S, i_bool_T, i_bool_L, i_bool_I, i_list_S, i_list_T, i_list_L, i_list_I, i_tuple_S, i_tuple_T, i_tuple_L, i_tuple_I, i_dict_S, i_dict_T, i_dict_L, i_dict_I, e_ty_int, e_ty_bool, e_ty_list, e_ty_dict, e_isi2, e_pl3, e_pl4, e_eqB, e_depB, e_ok3, e_r2, e_r3, e_r0, e_for, e_i1, e_p2, e_n0, e_n4, e_ln0, e_ln1, Int.reduceEq, Int.reduceLT, Int.reduceLE, decide_false, Option.isSome_some, Option.isSome_none, Bool.or_self, Bool.true_or, ↓reduceIte, m_law_spelled, Tm.d]
    refine sp_m_law_spelled a n _ _ h.1 (by omega) (by omega) ?_
    refine sp_m_law_spelled b n _ _ h.2 (by omega) (by omega) ?_
    simp only [e_seq, e_next, e_ret, e_retN, e_if, e_asg, e_own, e_drop, e_c, e_var0, e_varS, e_op, e_test, e_and, e_or, e_not, e_andV, e_orV, e_notV, e_ifE, e_chain, e_nil, e_cons, e_tup, e_lst, e_cb, e_call, e_sl, e_part, e_noPart, e_items, e_rng1, e_lc, e_yes, e_fn, e_rho1, e_rho2, e_rho3, e_rho4, e_isi, e_ints, e_CT, e_lenS, e_lenT, e_lenL, e_addI, e_addS, e_addL, e_int, e_intB, e_ixT, e_ixL, e_ixS, e_at0, e_at1, e_at2, e_slT, e_slL, e_slS, e_tail, e_eqS, e_eqI, e_depS, e_depI, e_isiS, e_isiT, e_isiTT, e_isiTS, e_lcN, e_lcC, e_name, e_repl, e_inT, e_inL, e_inS, e_inTab, e_ixTab, e_is, e_isNot, e_eqv, e_nev, e_starts, D.bl.injEq, D.int.injEq, D.str.injEq, D.tup.injEq, exists_eq_left', exists_eq_left, true_and, and_true, and_self, if_true, if_false, ite_true, ite_false, Bool.false_eq_true, Bool.not_true, Bool.not_false, eq_self, List.set_cons_zero, List.set_cons_succ, List.getElem?_cons_zero, List.getElem?_cons_succ, List.length_cons, List.length_nil, List.replicate_zero, List.map_cons, List.map_nil, List.nil_append, List.cons_append, Nat.reduceAdd, Nat.zero_add, noOwn, wipeR, List.all_cons, List.all_nil, List.any_cons, List.any_nil, Bool.and_true, Bool.or_false, Bool.false_or, Bool.and_self, Bool.xor_false, Bool.false_xor, Bool.true_xor, decide_true, Option.some.injEq, e_itT, e_itL, e_itS, e_pl1, e_pl2, e_ty1, e_ty2, e_ok1, e_ok2, e_min, e_one, e_two, e_three, e_nnT, e_nnS, e_fl1, e_fl2, e_fl3, e_starts, e_st2, t_var_pair, t_var_box, t_var_half, t_var_shut, t_var_mark, t_var_mix, t_pair_var, t_pair_box, t_pair_half, t_pair_shut, t_pair_mark, t_pair_mix, t_box_var, t_box_pair, t_box_half, t_box_shut, t_box_mark, t_box_mix, t_half_var, t_half_pair, t_half_box, t_half_shut, t_half_mark, t_half_mix, t_shut_var, t_shut_pair, t_shut_box, t_shut_half, t_shut_mark, t_shut_mix, t_mark_var, t_mark_pair, t_mark_box, t_mark_half, t_mark_shut, t_mark_mix, t_mix_var, t_mix_pair, t_mix_box, t_mix_half, t_mix_shut, t_mix_mark, e_n2, e_n3, Int.reduceNeg, Bool.or_true, i_str_S, i_str_T, i_str_L, i_str_I, i_int_S, i_int_T, i_int_L, i_int_I, i_bool_S, i_bool_T, i_bool_L, i_bool_I, i_list_S, i_list_T, i_list_L, i_list_I, i_tuple_S, i_tuple_T, i_tuple_L, i_tuple_I, i_dict_S, i_dict_T, i_dict_L, i_dict_I, e_ty_int, e_ty_bool, e_ty_list, e_ty_dict, e_isi2, e_pl3, e_pl4, e_eqB, e_depB, e_ok3, e_r2, e_r3, e_r0, e_for, e_i1, e_p2, e_n0, e_n4, e_ln0, e_ln1, Int.reduceEq, Int.reduceLT, Int.reduceLE, decide_false, Option.isSome_some, Option.isSome_none, Bool.or_self, Bool.true_or, ↓reduceIte, k_lp, k_and, k_rp]
    simp only [St_app]
    exact ⟨okS_pre (okS_pre (okS_pre w1)), okS_pre (okS_pre w1), okS_pre w1, w1, q⟩
  | .box a b, n + 1, Xd, Q, h, hd, hn, q => by
    have w1 := Tm.okw h hd
    simp only [Tm.wd] at w1 q
    simp only [Tm.depth] at hd hn
    simp only [e_seq, e_next, e_ret, e_retN, e_if, e_asg, e_own, e_drop, e_c, e_var0, e_varS, e_op, e_test, e_and, e_or, e_not, e_andV, e_orV, e_notV, e_ifE, e_chain, e_nil, e_cons, e_tup, e_lst, e_cb, e_call, e_sl, e_part, e_noPart, e_items, e_rng1, e_lc, e_yes, e_fn, e_rho1, e_rho2, e_rho3, e_rho4, e_isi, e_ints, e_CT, e_lenS, e_lenT, e_lenL, e_addI, e_addS, e_addL, e_int, e_intB, e_ixT, e_ixL, e_ixS, e_at0, e_at1, e_at2, e_slT, e_slL, e_slS, e_tail, e_eqS, e_eqI, e_depS, e_depI, e_isiS, e_isiT, e_isiTT, e_isiTS, e_lcN, e_lcC, e_name, e_repl, e_inT, e_inL, e_inS, e_inTab, e_ixTab, e_is, e_isNot, e_eqv, e_nev, e_starts, D.bl.injEq, D.int.injEq, D.str.injEq, D.tup.injEq, exists_eq_left', exists_eq_left, true_and, and_true, and_self, if_true, if_false, ite_true, ite_false, Bool.false_eq_true, Bool.not_true, Bool.not_false, eq_self, List.set_cons_zero, List.set_cons_succ, List.getElem?_cons_zero, List.getElem?_cons_succ, List.length_cons, List.length_nil, List.replicate_zero, List.map_cons, List.map_nil, List.nil_append, List.cons_append, Nat.reduceAdd, Nat.zero_add, noOwn, wipeR, List.all_cons, List.all_nil, List.any_cons, List.any_nil, Bool.and_true, Bool.or_false, Bool.false_or, Bool.and_self, Bool.xor_false, Bool.false_xor, Bool.true_xor, decide_true, Option.some.injEq, e_itT, e_itL, e_itS, e_pl1, e_pl2, e_ty1, e_ty2, e_ok1, e_ok2, e_min, e_one, e_two, e_three, e_nnT, e_nnS, e_fl1, e_fl2, e_fl3, e_starts, e_st2, t_var_pair, t_var_box, t_var_half, t_var_shut, t_var_mark, t_var_mix, t_pair_var, t_pair_box, t_pair_half, t_pair_shut, t_pair_mark, t_pair_mix, t_box_var, t_box_pair, t_box_half, t_box_shut, t_box_mark, t_box_mix, t_half_var, t_half_pair, t_half_box, t_half_shut, t_half_mark, t_half_mix, t_shut_var, t_shut_pair, t_shut_box, t_shut_half, t_shut_mark, t_shut_mix, t_mark_var, t_mark_pair, t_mark_box, t_mark_half, t_mark_shut, t_mark_mix, t_mix_var, t_mix_pair, t_mix_box, t_mix_half, t_mix_shut, t_mix_mark, e_n2, e_n3, Int.reduceNeg, Bool.or_true, i_str_S, i_str_T, i_str_L, i_str_I, i_int_S, i_int_T, i_int_L, i_int_I, i_bool_S, i_bool_T, i_bool_L, i_bool_I, i_list_S, i_list_T, i_list_L, i_list_I, i_tuple_S, i_tuple_T, i_tuple_L, i_tuple_I, i_dict_S, i_dict_T, i_dict_L, i_dict_I, e_ty_int, e_ty_bool, e_ty_list, e_ty_dict, e_isi2, e_pl3, e_pl4, e_eqB, e_depB, e_ok3, e_r2, e_r3, e_r0, e_for, e_i1, e_p2, e_n0, e_n4, e_ln0, e_ln1, Int.reduceEq, Int.reduceLT, Int.reduceLE, decide_false, Option.isSome_some, Option.isSome_none, Bool.or_self, Bool.true_or, ↓reduceIte, m_law_spelled, Tm.d]
    refine sp_m_law_spelled a n _ _ h.1 (by omega) (by omega) ?_
    refine sp_m_law_spelled b n _ _ h.2 (by omega) (by omega) ?_
    rcases shape a with ⟨s, rfl⟩ | ⟨tag, l, e1, e2, e3⟩
    · simp only [e_seq, e_next, e_ret, e_retN, e_if, e_asg, e_own, e_drop, e_c, e_var0, e_varS, e_op, e_test, e_and, e_or, e_not, e_andV, e_orV, e_notV, e_ifE, e_chain, e_nil, e_cons, e_tup, e_lst, e_cb, e_call, e_sl, e_part, e_noPart, e_items, e_rng1, e_lc, e_yes, e_fn, e_rho1, e_rho2, e_rho3, e_rho4, e_isi, e_ints, e_CT, e_lenS, e_lenT, e_lenL, e_addI, e_addS, e_addL, e_int, e_intB, e_ixT, e_ixL, e_ixS, e_at0, e_at1, e_at2, e_slT, e_slL, e_slS, e_tail, e_eqS, e_eqI, e_depS, e_depI, e_isiS, e_isiT, e_isiTT, e_isiTS, e_lcN, e_lcC, e_name, e_repl, e_inT, e_inL, e_inS, e_inTab, e_ixTab, e_is, e_isNot, e_eqv, e_nev, e_starts, D.bl.injEq, D.int.injEq, D.str.injEq, D.tup.injEq, exists_eq_left', exists_eq_left, true_and, and_true, and_self, if_true, if_false, ite_true, ite_false, Bool.false_eq_true, Bool.not_true, Bool.not_false, eq_self, List.set_cons_zero, List.set_cons_succ, List.getElem?_cons_zero, List.getElem?_cons_succ, List.length_cons, List.length_nil, List.replicate_zero, List.map_cons, List.map_nil, List.nil_append, List.cons_append, Nat.reduceAdd, Nat.zero_add, noOwn, wipeR, List.all_cons, List.all_nil, List.any_cons, List.any_nil, Bool.and_true, Bool.or_false, Bool.false_or, Bool.and_self, Bool.xor_false, Bool.false_xor, Bool.true_xor, decide_true, Option.some.injEq, e_itT, e_itL, e_itS, e_pl1, e_pl2, e_ty1, e_ty2, e_ok1, e_ok2, e_min, e_one, e_two, e_three, e_nnT, e_nnS, e_fl1, e_fl2, e_fl3, e_starts, e_st2, t_var_pair, t_var_box, t_var_half, t_var_shut, t_var_mark, t_var_mix, t_pair_var, t_pair_box, t_pair_half, t_pair_shut, t_pair_mark, t_pair_mix, t_box_var, t_box_pair, t_box_half, t_box_shut, t_box_mark, t_box_mix, t_half_var, t_half_pair, t_half_box, t_half_shut, t_half_mark, t_half_mix, t_shut_var, t_shut_pair, t_shut_box, t_shut_half, t_shut_mark, t_shut_mix, t_mark_var, t_mark_pair, t_mark_box, t_mark_half, t_mark_shut, t_mark_mix, t_mix_var, t_mix_pair, t_mix_box, t_mix_half, t_mix_shut, t_mix_mark, e_n2, e_n3, Int.reduceNeg, Bool.or_true, i_str_S, i_str_T, i_str_L, i_str_I, i_int_S, i_int_T, i_int_L, i_int_I, i_bool_S, i_bool_T, i_bool_L, i_bool_I, i_list_S, i_list_T, i_list_L, i_list_I, i_tuple_S, i_tuple_T, i_tuple_L, i_tuple_I, i_dict_S, i_dict_T, i_dict_L, i_dict_I, e_ty_int, e_ty_bool, e_ty_list, e_ty_dict, e_isi2, e_pl3, e_pl4, e_eqB, e_depB, e_ok3, e_r2, e_r3, e_r0, e_for, e_i1, e_p2, e_n0, e_n4, e_ln0, e_ln1, Int.reduceEq, Int.reduceLT, Int.reduceLE, decide_false, Option.isSome_some, Option.isSome_none, Bool.or_self, Bool.true_or, ↓reduceIte, k_lb, k_rb, Tm.d]
      simp only [St_app]
      exact ⟨okS_pre (okS_pre w1), okS_pre w1, w1, q⟩
    · rw [e3] at w1 q
      simp only [e_seq, e_next, e_ret, e_retN, e_if, e_asg, e_own, e_drop, e_c, e_var0, e_varS, e_op, e_test, e_and, e_or, e_not, e_andV, e_orV, e_notV, e_ifE, e_chain, e_nil, e_cons, e_tup, e_lst, e_cb, e_call, e_sl, e_part, e_noPart, e_items, e_rng1, e_lc, e_yes, e_fn, e_rho1, e_rho2, e_rho3, e_rho4, e_isi, e_ints, e_CT, e_lenS, e_lenT, e_lenL, e_addI, e_addS, e_addL, e_int, e_intB, e_ixT, e_ixL, e_ixS, e_at0, e_at1, e_at2, e_slT, e_slL, e_slS, e_tail, e_eqS, e_eqI, e_depS, e_depI, e_isiS, e_isiT, e_isiTT, e_isiTS, e_lcN, e_lcC, e_name, e_repl, e_inT, e_inL, e_inS, e_inTab, e_ixTab, e_is, e_isNot, e_eqv, e_nev, e_starts, D.bl.injEq, D.int.injEq, D.str.injEq, D.tup.injEq, exists_eq_left', exists_eq_left, true_and, and_true, and_self, if_true, if_false, ite_true, ite_false, Bool.false_eq_true, Bool.not_true, Bool.not_false, eq_self, List.set_cons_zero, List.set_cons_succ, List.getElem?_cons_zero, List.getElem?_cons_succ, List.length_cons, List.length_nil, List.replicate_zero, List.map_cons, List.map_nil, List.nil_append, List.cons_append, Nat.reduceAdd, Nat.zero_add, noOwn, wipeR, List.all_cons, List.all_nil, List.any_cons, List.any_nil, Bool.and_true, Bool.or_false, Bool.false_or, Bool.and_self, Bool.xor_false, Bool.false_xor, Bool.true_xor, decide_true, Option.some.injEq, e_itT, e_itL, e_itS, e_pl1, e_pl2, e_ty1, e_ty2, e_ok1, e_ok2, e_min, e_one, e_two, e_three, e_nnT, e_nnS, e_fl1, e_fl2, e_fl3, e_starts, e_st2, t_var_pair, t_var_box, t_var_half, t_var_shut, t_var_mark, t_var_mix, t_pair_var, t_pair_box, t_pair_half, t_pair_shut, t_pair_mark, t_pair_mix, t_box_var, t_box_pair, t_box_half, t_box_shut, t_box_mark, t_box_mix, t_half_var, t_half_pair, t_half_box, t_half_shut, t_half_mark, t_half_mix, t_shut_var, t_shut_pair, t_shut_box, t_shut_half, t_shut_mark, t_shut_mix, t_mark_var, t_mark_pair, t_mark_box, t_mark_half, t_mark_shut, t_mark_mix, t_mix_var, t_mix_pair, t_mix_box, t_mix_half, t_mix_shut, t_mix_mark, e_n2, e_n3, Int.reduceNeg, Bool.or_true, i_str_S, i_str_T, i_str_L, i_str_I, i_int_S, i_int_T, i_int_L, i_int_I, i_bool_S, i_bool_T, i_bool_L, i_bool_I, i_list_S, i_list_T, i_list_L, i_list_I, i_tuple_S, i_tuple_T, i_tuple_L, i_tuple_I, i_dict_S, i_dict_T, i_dict_L, i_dict_I, e_ty_int, e_ty_bool, e_ty_list, e_ty_dict, e_isi2, e_pl3, e_pl4, e_eqB, e_depB, e_ok3, e_r2, e_r3, e_r0, e_for, e_i1, e_p2, e_n0, e_n4, e_ln0, e_ln1, Int.reduceEq, Int.reduceLT, Int.reduceLE, decide_false, Option.isSome_some, Option.isSome_none, Bool.or_self, Bool.true_or, ↓reduceIte, k_lb, k_rb, k_lt, k_gt, k_rl, e1, e2]
      simp only [St_app]
      have e : [91] ++ b.wd ++ [93] ++ ([60] ++ a.wd ++ [62]) = [91] ++ b.wd ++ [93, 60] ++ a.wd ++ [62] := by simp
      rw [e] at w1 q
      exact ⟨okS_pre (okS_pre (okS_pre w1)), okS_pre (okS_pre w1), okS_pre w1, w1, q⟩
  | .half s, n + 1, Xd, Q, h, hd, hn, q => by
    have w1 := Tm.okw h hd
    simp only [Tm.wd] at w1 q
    simp only [Tm.depth] at hd hn
    simp only [e_seq, e_next, e_ret, e_retN, e_if, e_asg, e_own, e_drop, e_c, e_var0, e_varS, e_op, e_test, e_and, e_or, e_not, e_andV, e_orV, e_notV, e_ifE, e_chain, e_nil, e_cons, e_tup, e_lst, e_cb, e_call, e_sl, e_part, e_noPart, e_items, e_rng1, e_lc, e_yes, e_fn, e_rho1, e_rho2, e_rho3, e_rho4, e_isi, e_ints, e_CT, e_lenS, e_lenT, e_lenL, e_addI, e_addS, e_addL, e_int, e_intB, e_ixT, e_ixL, e_ixS, e_at0, e_at1, e_at2, e_slT, e_slL, e_slS, e_tail, e_eqS, e_eqI, e_depS, e_depI, e_isiS, e_isiT, e_isiTT, e_isiTS, e_lcN, e_lcC, e_name, e_repl, e_inT, e_inL, e_inS, e_inTab, e_ixTab, e_is, e_isNot, e_eqv, e_nev, e_starts, D.bl.injEq, D.int.injEq, D.str.injEq, D.tup.injEq, exists_eq_left', exists_eq_left, true_and, and_true, and_self, if_true, if_false, ite_true, ite_false, Bool.false_eq_true, Bool.not_true, Bool.not_false, eq_self, List.set_cons_zero, List.set_cons_succ, List.getElem?_cons_zero, List.getElem?_cons_succ, List.length_cons, List.length_nil, List.replicate_zero, List.map_cons, List.map_nil, List.nil_append, List.cons_append, Nat.reduceAdd, Nat.zero_add, noOwn, wipeR, List.all_cons, List.all_nil, List.any_cons, List.any_nil, Bool.and_true, Bool.or_false, Bool.false_or, Bool.and_self, Bool.xor_false, Bool.false_xor, Bool.true_xor, decide_true, Option.some.injEq, e_itT, e_itL, e_itS, e_pl1, e_pl2, e_ty1, e_ty2, e_ok1, e_ok2, e_min, e_one, e_two, e_three, e_nnT, e_nnS, e_fl1, e_fl2, e_fl3, e_starts, e_st2, t_var_pair, t_var_box, t_var_half, t_var_shut, t_var_mark, t_var_mix, t_pair_var, t_pair_box, t_pair_half, t_pair_shut, t_pair_mark, t_pair_mix, t_box_var, t_box_pair, t_box_half, t_box_shut, t_box_mark, t_box_mix, t_half_var, t_half_pair, t_half_box, t_half_shut, t_half_mark, t_half_mix, t_shut_var, t_shut_pair, t_shut_box, t_shut_half, t_shut_mark, t_shut_mix, t_mark_var, t_mark_pair, t_mark_box, t_mark_half, t_mark_shut, t_mark_mix, t_mix_var, t_mix_pair, t_mix_box, t_mix_half, t_mix_shut, t_mix_mark, e_n2, e_n3, Int.reduceNeg, Bool.or_true, i_str_S, i_str_T, i_str_L, i_str_I, i_int_S, i_int_T, i_int_L, i_int_I, i_bool_S, i_bool_T, i_bool_L, i_bool_I, i_list_S, i_list_T, i_list_L, i_list_I, i_tuple_S, i_tuple_T, i_tuple_L, i_tuple_I, i_dict_S, i_dict_T, i_dict_L, i_dict_I, e_ty_int, e_ty_bool, e_ty_list, e_ty_dict, e_isi2, e_pl3, e_pl4, e_eqB, e_depB, e_ok3, e_r2, e_r3, e_r0, e_for, e_i1, e_p2, e_n0, e_n4, e_ln0, e_ln1, Int.reduceEq, Int.reduceLT, Int.reduceLE, decide_false, Option.isSome_some, Option.isSome_none, Bool.or_self, Bool.true_or, ↓reduceIte, m_law_spelled, Tm.d]
    refine sp_m_law_spelled (.nm s) n _ _ h (by simp only [Tm.depth]; omega) (by simp only [Tm.depth]; omega) ?_
    simp only [e_seq, e_next, e_ret, e_retN, e_if, e_asg, e_own, e_drop, e_c, e_var0, e_varS, e_op, e_test, e_and, e_or, e_not, e_andV, e_orV, e_notV, e_ifE, e_chain, e_nil, e_cons, e_tup, e_lst, e_cb, e_call, e_sl, e_part, e_noPart, e_items, e_rng1, e_lc, e_yes, e_fn, e_rho1, e_rho2, e_rho3, e_rho4, e_isi, e_ints, e_CT, e_lenS, e_lenT, e_lenL, e_addI, e_addS, e_addL, e_int, e_intB, e_ixT, e_ixL, e_ixS, e_at0, e_at1, e_at2, e_slT, e_slL, e_slS, e_tail, e_eqS, e_eqI, e_depS, e_depI, e_isiS, e_isiT, e_isiTT, e_isiTS, e_lcN, e_lcC, e_name, e_repl, e_inT, e_inL, e_inS, e_inTab, e_ixTab, e_is, e_isNot, e_eqv, e_nev, e_starts, D.bl.injEq, D.int.injEq, D.str.injEq, D.tup.injEq, exists_eq_left', exists_eq_left, true_and, and_true, and_self, if_true, if_false, ite_true, ite_false, Bool.false_eq_true, Bool.not_true, Bool.not_false, eq_self, List.set_cons_zero, List.set_cons_succ, List.getElem?_cons_zero, List.getElem?_cons_succ, List.length_cons, List.length_nil, List.replicate_zero, List.map_cons, List.map_nil, List.nil_append, List.cons_append, Nat.reduceAdd, Nat.zero_add, noOwn, wipeR, List.all_cons, List.all_nil, List.any_cons, List.any_nil, Bool.and_true, Bool.or_false, Bool.false_or, Bool.and_self, Bool.xor_false, Bool.false_xor, Bool.true_xor, decide_true, Option.some.injEq, e_itT, e_itL, e_itS, e_pl1, e_pl2, e_ty1, e_ty2, e_ok1, e_ok2, e_min, e_one, e_two, e_three, e_nnT, e_nnS, e_fl1, e_fl2, e_fl3, e_starts, e_st2, t_var_pair, t_var_box, t_var_half, t_var_shut, t_var_mark, t_var_mix, t_pair_var, t_pair_box, t_pair_half, t_pair_shut, t_pair_mark, t_pair_mix, t_box_var, t_box_pair, t_box_half, t_box_shut, t_box_mark, t_box_mix, t_half_var, t_half_pair, t_half_box, t_half_shut, t_half_mark, t_half_mix, t_shut_var, t_shut_pair, t_shut_box, t_shut_half, t_shut_mark, t_shut_mix, t_mark_var, t_mark_pair, t_mark_box, t_mark_half, t_mark_shut, t_mark_mix, t_mix_var, t_mix_pair, t_mix_box, t_mix_half, t_mix_shut, t_mix_mark, e_n2, e_n3, Int.reduceNeg, Bool.or_true, i_str_S, i_str_T, i_str_L, i_str_I, i_int_S, i_int_T, i_int_L, i_int_I, i_bool_S, i_bool_T, i_bool_L, i_bool_I, i_list_S, i_list_T, i_list_L, i_list_I, i_tuple_S, i_tuple_T, i_tuple_L, i_tuple_I, i_dict_S, i_dict_T, i_dict_L, i_dict_I, e_ty_int, e_ty_bool, e_ty_list, e_ty_dict, e_isi2, e_pl3, e_pl4, e_eqB, e_depB, e_ok3, e_r2, e_r3, e_r0, e_for, e_i1, e_p2, e_n0, e_n4, e_ln0, e_ln1, Int.reduceEq, Int.reduceLT, Int.reduceLE, decide_false, Option.isSome_some, Option.isSome_none, Bool.or_self, Bool.true_or, ↓reduceIte, k_half]
    simp only [St_app]
    exact ⟨w1, q⟩
  | .shut s a, n + 1, Xd, Q, h, hd, hn, q => by
    have w1 := Tm.okw h hd
    simp only [Tm.wd] at w1 q
    simp only [Tm.depth] at hd hn
    simp only [e_seq, e_next, e_ret, e_retN, e_if, e_asg, e_own, e_drop, e_c, e_var0, e_varS, e_op, e_test, e_and, e_or, e_not, e_andV, e_orV, e_notV, e_ifE, e_chain, e_nil, e_cons, e_tup, e_lst, e_cb, e_call, e_sl, e_part, e_noPart, e_items, e_rng1, e_lc, e_yes, e_fn, e_rho1, e_rho2, e_rho3, e_rho4, e_isi, e_ints, e_CT, e_lenS, e_lenT, e_lenL, e_addI, e_addS, e_addL, e_int, e_intB, e_ixT, e_ixL, e_ixS, e_at0, e_at1, e_at2, e_slT, e_slL, e_slS, e_tail, e_eqS, e_eqI, e_depS, e_depI, e_isiS, e_isiT, e_isiTT, e_isiTS, e_lcN, e_lcC, e_name, e_repl, e_inT, e_inL, e_inS, e_inTab, e_ixTab, e_is, e_isNot, e_eqv, e_nev, e_starts, D.bl.injEq, D.int.injEq, D.str.injEq, D.tup.injEq, exists_eq_left', exists_eq_left, true_and, and_true, and_self, if_true, if_false, ite_true, ite_false, Bool.false_eq_true, Bool.not_true, Bool.not_false, eq_self, List.set_cons_zero, List.set_cons_succ, List.getElem?_cons_zero, List.getElem?_cons_succ, List.length_cons, List.length_nil, List.replicate_zero, List.map_cons, List.map_nil, List.nil_append, List.cons_append, Nat.reduceAdd, Nat.zero_add, noOwn, wipeR, List.all_cons, List.all_nil, List.any_cons, List.any_nil, Bool.and_true, Bool.or_false, Bool.false_or, Bool.and_self, Bool.xor_false, Bool.false_xor, Bool.true_xor, decide_true, Option.some.injEq, e_itT, e_itL, e_itS, e_pl1, e_pl2, e_ty1, e_ty2, e_ok1, e_ok2, e_min, e_one, e_two, e_three, e_nnT, e_nnS, e_fl1, e_fl2, e_fl3, e_starts, e_st2, t_var_pair, t_var_box, t_var_half, t_var_shut, t_var_mark, t_var_mix, t_pair_var, t_pair_box, t_pair_half, t_pair_shut, t_pair_mark, t_pair_mix, t_box_var, t_box_pair, t_box_half, t_box_shut, t_box_mark, t_box_mix, t_half_var, t_half_pair, t_half_box, t_half_shut, t_half_mark, t_half_mix, t_shut_var, t_shut_pair, t_shut_box, t_shut_half, t_shut_mark, t_shut_mix, t_mark_var, t_mark_pair, t_mark_box, t_mark_half, t_mark_shut, t_mark_mix, t_mix_var, t_mix_pair, t_mix_box, t_mix_half, t_mix_shut, t_mix_mark, e_n2, e_n3, Int.reduceNeg, Bool.or_true, i_str_S, i_str_T, i_str_L, i_str_I, i_int_S, i_int_T, i_int_L, i_int_I, i_bool_S, i_bool_T, i_bool_L, i_bool_I, i_list_S, i_list_T, i_list_L, i_list_I, i_tuple_S, i_tuple_T, i_tuple_L, i_tuple_I, i_dict_S, i_dict_T, i_dict_L, i_dict_I, e_ty_int, e_ty_bool, e_ty_list, e_ty_dict, e_isi2, e_pl3, e_pl4, e_eqB, e_depB, e_ok3, e_r2, e_r3, e_r0, e_for, e_i1, e_p2, e_n0, e_n4, e_ln0, e_ln1, Int.reduceEq, Int.reduceLT, Int.reduceLE, decide_false, Option.isSome_some, Option.isSome_none, Bool.or_self, Bool.true_or, ↓reduceIte, m_law_spelled, Tm.d]
    refine sp_m_law_spelled (.nm s) n _ _ h.1 (by simp only [Tm.depth]; omega) (by simp only [Tm.depth]; omega) ?_
    refine sp_m_law_spelled a n _ _ h.2 (by omega) (by omega) ?_
    simp only [e_seq, e_next, e_ret, e_retN, e_if, e_asg, e_own, e_drop, e_c, e_var0, e_varS, e_op, e_test, e_and, e_or, e_not, e_andV, e_orV, e_notV, e_ifE, e_chain, e_nil, e_cons, e_tup, e_lst, e_cb, e_call, e_sl, e_part, e_noPart, e_items, e_rng1, e_lc, e_yes, e_fn, e_rho1, e_rho2, e_rho3, e_rho4, e_isi, e_ints, e_CT, e_lenS, e_lenT, e_lenL, e_addI, e_addS, e_addL, e_int, e_intB, e_ixT, e_ixL, e_ixS, e_at0, e_at1, e_at2, e_slT, e_slL, e_slS, e_tail, e_eqS, e_eqI, e_depS, e_depI, e_isiS, e_isiT, e_isiTT, e_isiTS, e_lcN, e_lcC, e_name, e_repl, e_inT, e_inL, e_inS, e_inTab, e_ixTab, e_is, e_isNot, e_eqv, e_nev, e_starts, D.bl.injEq, D.int.injEq, D.str.injEq, D.tup.injEq, exists_eq_left', exists_eq_left, true_and, and_true, and_self, if_true, if_false, ite_true, ite_false, Bool.false_eq_true, Bool.not_true, Bool.not_false, eq_self, List.set_cons_zero, List.set_cons_succ, List.getElem?_cons_zero, List.getElem?_cons_succ, List.length_cons, List.length_nil, List.replicate_zero, List.map_cons, List.map_nil, List.nil_append, List.cons_append, Nat.reduceAdd, Nat.zero_add, noOwn, wipeR, List.all_cons, List.all_nil, List.any_cons, List.any_nil, Bool.and_true, Bool.or_false, Bool.false_or, Bool.and_self, Bool.xor_false, Bool.false_xor, Bool.true_xor, decide_true, Option.some.injEq, e_itT, e_itL, e_itS, e_pl1, e_pl2, e_ty1, e_ty2, e_ok1, e_ok2, e_min, e_one, e_two, e_three, e_nnT, e_nnS, e_fl1, e_fl2, e_fl3, e_starts, e_st2, t_var_pair, t_var_box, t_var_half, t_var_shut, t_var_mark, t_var_mix, t_pair_var, t_pair_box, t_pair_half, t_pair_shut, t_pair_mark, t_pair_mix, t_box_var, t_box_pair, t_box_half, t_box_shut, t_box_mark, t_box_mix, t_half_var, t_half_pair, t_half_box, t_half_shut, t_half_mark, t_half_mix, t_shut_var, t_shut_pair, t_shut_box, t_shut_half, t_shut_mark, t_shut_mix, t_mark_var, t_mark_pair, t_mark_box, t_mark_half, t_mark_shut, t_mark_mix, t_mix_var, t_mix_pair, t_mix_box, t_mix_half, t_mix_shut, t_mix_mark, e_n2, e_n3, Int.reduceNeg, Bool.or_true, i_str_S, i_str_T, i_str_L, i_str_I, i_int_S, i_int_T, i_int_L, i_int_I, i_bool_S, i_bool_T, i_bool_L, i_bool_I, i_list_S, i_list_T, i_list_L, i_list_I, i_tuple_S, i_tuple_T, i_tuple_L, i_tuple_I, i_dict_S, i_dict_T, i_dict_L, i_dict_I, e_ty_int, e_ty_bool, e_ty_list, e_ty_dict, e_isi2, e_pl3, e_pl4, e_eqB, e_depB, e_ok3, e_r2, e_r3, e_r0, e_for, e_i1, e_p2, e_n0, e_n4, e_ln0, e_ln1, Int.reduceEq, Int.reduceLT, Int.reduceLE, decide_false, Option.isSome_some, Option.isSome_none, Bool.or_self, Bool.true_or, ↓reduceIte, k_lc, k_rc]
    simp only [St_app]
    exact ⟨okS_pre (okS_pre w1), okS_pre w1, w1, q⟩
  | .mark s a, n + 1, Xd, Q, h, hd, hn, q => by
    have w1 := Tm.okw h hd
    simp only [Tm.wd] at w1 q
    simp only [Tm.depth] at hd hn
    simp only [e_seq, e_next, e_ret, e_retN, e_if, e_asg, e_own, e_drop, e_c, e_var0, e_varS, e_op, e_test, e_and, e_or, e_not, e_andV, e_orV, e_notV, e_ifE, e_chain, e_nil, e_cons, e_tup, e_lst, e_cb, e_call, e_sl, e_part, e_noPart, e_items, e_rng1, e_lc, e_yes, e_fn, e_rho1, e_rho2, e_rho3, e_rho4, e_isi, e_ints, e_CT, e_lenS, e_lenT, e_lenL, e_addI, e_addS, e_addL, e_int, e_intB, e_ixT, e_ixL, e_ixS, e_at0, e_at1, e_at2, e_slT, e_slL, e_slS, e_tail, e_eqS, e_eqI, e_depS, e_depI, e_isiS, e_isiT, e_isiTT, e_isiTS, e_lcN, e_lcC, e_name, e_repl, e_inT, e_inL, e_inS, e_inTab, e_ixTab, e_is, e_isNot, e_eqv, e_nev, e_starts, D.bl.injEq, D.int.injEq, D.str.injEq, D.tup.injEq, exists_eq_left', exists_eq_left, true_and, and_true, and_self, if_true, if_false, ite_true, ite_false, Bool.false_eq_true, Bool.not_true, Bool.not_false, eq_self, List.set_cons_zero, List.set_cons_succ, List.getElem?_cons_zero, List.getElem?_cons_succ, List.length_cons, List.length_nil, List.replicate_zero, List.map_cons, List.map_nil, List.nil_append, List.cons_append, Nat.reduceAdd, Nat.zero_add, noOwn, wipeR, List.all_cons, List.all_nil, List.any_cons, List.any_nil, Bool.and_true, Bool.or_false, Bool.false_or, Bool.and_self, Bool.xor_false, Bool.false_xor, Bool.true_xor, decide_true, Option.some.injEq, e_itT, e_itL, e_itS, e_pl1, e_pl2, e_ty1, e_ty2, e_ok1, e_ok2, e_min, e_one, e_two, e_three, e_nnT, e_nnS, e_fl1, e_fl2, e_fl3, e_starts, e_st2, t_var_pair, t_var_box, t_var_half, t_var_shut, t_var_mark, t_var_mix, t_pair_var, t_pair_box, t_pair_half, t_pair_shut, t_pair_mark, t_pair_mix, t_box_var, t_box_pair, t_box_half, t_box_shut, t_box_mark, t_box_mix, t_half_var, t_half_pair, t_half_box, t_half_shut, t_half_mark, t_half_mix, t_shut_var, t_shut_pair, t_shut_box, t_shut_half, t_shut_mark, t_shut_mix, t_mark_var, t_mark_pair, t_mark_box, t_mark_half, t_mark_shut, t_mark_mix, t_mix_var, t_mix_pair, t_mix_box, t_mix_half, t_mix_shut, t_mix_mark, e_n2, e_n3, Int.reduceNeg, Bool.or_true, i_str_S, i_str_T, i_str_L, i_str_I, i_int_S, i_int_T, i_int_L, i_int_I, i_bool_S, i_bool_T, i_bool_L, i_bool_I, i_list_S, i_list_T, i_list_L, i_list_I, i_tuple_S, i_tuple_T, i_tuple_L, i_tuple_I, i_dict_S, i_dict_T, i_dict_L, i_dict_I, e_ty_int, e_ty_bool, e_ty_list, e_ty_dict, e_isi2, e_pl3, e_pl4, e_eqB, e_depB, e_ok3, e_r2, e_r3, e_r0, e_for, e_i1, e_p2, e_n0, e_n4, e_ln0, e_ln1, Int.reduceEq, Int.reduceLT, Int.reduceLE, decide_false, Option.isSome_some, Option.isSome_none, Bool.or_self, Bool.true_or, ↓reduceIte, m_law_spelled, Tm.d]
    refine sp_m_law_spelled (.nm s) n _ _ h.1 (by simp only [Tm.depth]; omega) (by simp only [Tm.depth]; omega) ?_
    refine sp_m_law_spelled a n _ _ h.2 (by omega) (by omega) ?_
    simp only [e_seq, e_next, e_ret, e_retN, e_if, e_asg, e_own, e_drop, e_c, e_var0, e_varS, e_op, e_test, e_and, e_or, e_not, e_andV, e_orV, e_notV, e_ifE, e_chain, e_nil, e_cons, e_tup, e_lst, e_cb, e_call, e_sl, e_part, e_noPart, e_items, e_rng1, e_lc, e_yes, e_fn, e_rho1, e_rho2, e_rho3, e_rho4, e_isi, e_ints, e_CT, e_lenS, e_lenT, e_lenL, e_addI, e_addS, e_addL, e_int, e_intB, e_ixT, e_ixL, e_ixS, e_at0, e_at1, e_at2, e_slT, e_slL, e_slS, e_tail, e_eqS, e_eqI, e_depS, e_depI, e_isiS, e_isiT, e_isiTT, e_isiTS, e_lcN, e_lcC, e_name, e_repl, e_inT, e_inL, e_inS, e_inTab, e_ixTab, e_is, e_isNot, e_eqv, e_nev, e_starts, D.bl.injEq, D.int.injEq, D.str.injEq, D.tup.injEq, exists_eq_left', exists_eq_left, true_and, and_true, and_self, if_true, if_false, ite_true, ite_false, Bool.false_eq_true, Bool.not_true, Bool.not_false, eq_self, List.set_cons_zero, List.set_cons_succ, List.getElem?_cons_zero, List.getElem?_cons_succ, List.length_cons, List.length_nil, List.replicate_zero, List.map_cons, List.map_nil, List.nil_append, List.cons_append, Nat.reduceAdd, Nat.zero_add, noOwn, wipeR, List.all_cons, List.all_nil, List.any_cons, List.any_nil, Bool.and_true, Bool.or_false, Bool.false_or, Bool.and_self, Bool.xor_false, Bool.false_xor, Bool.true_xor, decide_true, Option.some.injEq, e_itT, e_itL, e_itS, e_pl1, e_pl2, e_ty1, e_ty2, e_ok1, e_ok2, e_min, e_one, e_two, e_three, e_nnT, e_nnS, e_fl1, e_fl2, e_fl3, e_starts, e_st2, t_var_pair, t_var_box, t_var_half, t_var_shut, t_var_mark, t_var_mix, t_pair_var, t_pair_box, t_pair_half, t_pair_shut, t_pair_mark, t_pair_mix, t_box_var, t_box_pair, t_box_half, t_box_shut, t_box_mark, t_box_mix, t_half_var, t_half_pair, t_half_box, t_half_shut, t_half_mark, t_half_mix, t_shut_var, t_shut_pair, t_shut_box, t_shut_half, t_shut_mark, t_shut_mix, t_mark_var, t_mark_pair, t_mark_box, t_mark_half, t_mark_shut, t_mark_mix, t_mix_var, t_mix_pair, t_mix_box, t_mix_half, t_mix_shut, t_mix_mark, e_n2, e_n3, Int.reduceNeg, Bool.or_true, i_str_S, i_str_T, i_str_L, i_str_I, i_int_S, i_int_T, i_int_L, i_int_I, i_bool_S, i_bool_T, i_bool_L, i_bool_I, i_list_S, i_list_T, i_list_L, i_list_I, i_tuple_S, i_tuple_T, i_tuple_L, i_tuple_I, i_dict_S, i_dict_T, i_dict_L, i_dict_I, e_ty_int, e_ty_bool, e_ty_list, e_ty_dict, e_isi2, e_pl3, e_pl4, e_eqB, e_depB, e_ok3, e_r2, e_r3, e_r0, e_for, e_i1, e_p2, e_n0, e_n4, e_ln0, e_ln1, Int.reduceEq, Int.reduceLT, Int.reduceLE, decide_false, Option.isSome_some, Option.isSome_none, Bool.or_self, Bool.true_or, ↓reduceIte, k_lp, k_ex, k_rp]
    simp only [St_app]
    exact ⟨okS_pre (okS_pre (okS_pre w1)), okS_pre (okS_pre w1), okS_pre w1, w1, q⟩
  | .mix a, n + 1, Xd, Q, h, hd, hn, q => by
    have w1 := Tm.okw h hd
    simp only [Tm.wd] at w1 q
    simp only [Tm.depth] at hd hn
    simp only [e_seq, e_next, e_ret, e_retN, e_if, e_asg, e_own, e_drop, e_c, e_var0, e_varS, e_op, e_test, e_and, e_or, e_not, e_andV, e_orV, e_notV, e_ifE, e_chain, e_nil, e_cons, e_tup, e_lst, e_cb, e_call, e_sl, e_part, e_noPart, e_items, e_rng1, e_lc, e_yes, e_fn, e_rho1, e_rho2, e_rho3, e_rho4, e_isi, e_ints, e_CT, e_lenS, e_lenT, e_lenL, e_addI, e_addS, e_addL, e_int, e_intB, e_ixT, e_ixL, e_ixS, e_at0, e_at1, e_at2, e_slT, e_slL, e_slS, e_tail, e_eqS, e_eqI, e_depS, e_depI, e_isiS, e_isiT, e_isiTT, e_isiTS, e_lcN, e_lcC, e_name, e_repl, e_inT, e_inL, e_inS, e_inTab, e_ixTab, e_is, e_isNot, e_eqv, e_nev, e_starts, D.bl.injEq, D.int.injEq, D.str.injEq, D.tup.injEq, exists_eq_left', exists_eq_left, true_and, and_true, and_self, if_true, if_false, ite_true, ite_false, Bool.false_eq_true, Bool.not_true, Bool.not_false, eq_self, List.set_cons_zero, List.set_cons_succ, List.getElem?_cons_zero, List.getElem?_cons_succ, List.length_cons, List.length_nil, List.replicate_zero, List.map_cons, List.map_nil, List.nil_append, List.cons_append, Nat.reduceAdd, Nat.zero_add, noOwn, wipeR, List.all_cons, List.all_nil, List.any_cons, List.any_nil, Bool.and_true, Bool.or_false, Bool.false_or, Bool.and_self, Bool.xor_false, Bool.false_xor, Bool.true_xor, decide_true, Option.some.injEq, e_itT, e_itL, e_itS, e_pl1, e_pl2, e_ty1, e_ty2, e_ok1, e_ok2, e_min, e_one, e_two, e_three, e_nnT, e_nnS, e_fl1, e_fl2, e_fl3, e_starts, e_st2, t_var_pair, t_var_box, t_var_half, t_var_shut, t_var_mark, t_var_mix, t_pair_var, t_pair_box, t_pair_half, t_pair_shut, t_pair_mark, t_pair_mix, t_box_var, t_box_pair, t_box_half, t_box_shut, t_box_mark, t_box_mix, t_half_var, t_half_pair, t_half_box, t_half_shut, t_half_mark, t_half_mix, t_shut_var, t_shut_pair, t_shut_box, t_shut_half, t_shut_mark, t_shut_mix, t_mark_var, t_mark_pair, t_mark_box, t_mark_half, t_mark_shut, t_mark_mix, t_mix_var, t_mix_pair, t_mix_box, t_mix_half, t_mix_shut, t_mix_mark, e_n2, e_n3, Int.reduceNeg, Bool.or_true, i_str_S, i_str_T, i_str_L, i_str_I, i_int_S, i_int_T, i_int_L, i_int_I, i_bool_S, i_bool_T, i_bool_L, i_bool_I, i_list_S, i_list_T, i_list_L, i_list_I, i_tuple_S, i_tuple_T, i_tuple_L, i_tuple_I, i_dict_S, i_dict_T, i_dict_L, i_dict_I, e_ty_int, e_ty_bool, e_ty_list, e_ty_dict, e_isi2, e_pl3, e_pl4, e_eqB, e_depB, e_ok3, e_r2, e_r3, e_r0, e_for, e_i1, e_p2, e_n0, e_n4, e_ln0, e_ln1, Int.reduceEq, Int.reduceLT, Int.reduceLE, decide_false, Option.isSome_some, Option.isSome_none, Bool.or_self, Bool.true_or, ↓reduceIte, m_law_spelled, Tm.d]
    refine sp_m_law_spelled a n _ _ h (by omega) (by omega) ?_
    simp only [e_seq, e_next, e_ret, e_retN, e_if, e_asg, e_own, e_drop, e_c, e_var0, e_varS, e_op, e_test, e_and, e_or, e_not, e_andV, e_orV, e_notV, e_ifE, e_chain, e_nil, e_cons, e_tup, e_lst, e_cb, e_call, e_sl, e_part, e_noPart, e_items, e_rng1, e_lc, e_yes, e_fn, e_rho1, e_rho2, e_rho3, e_rho4, e_isi, e_ints, e_CT, e_lenS, e_lenT, e_lenL, e_addI, e_addS, e_addL, e_int, e_intB, e_ixT, e_ixL, e_ixS, e_at0, e_at1, e_at2, e_slT, e_slL, e_slS, e_tail, e_eqS, e_eqI, e_depS, e_depI, e_isiS, e_isiT, e_isiTT, e_isiTS, e_lcN, e_lcC, e_name, e_repl, e_inT, e_inL, e_inS, e_inTab, e_ixTab, e_is, e_isNot, e_eqv, e_nev, e_starts, D.bl.injEq, D.int.injEq, D.str.injEq, D.tup.injEq, exists_eq_left', exists_eq_left, true_and, and_true, and_self, if_true, if_false, ite_true, ite_false, Bool.false_eq_true, Bool.not_true, Bool.not_false, eq_self, List.set_cons_zero, List.set_cons_succ, List.getElem?_cons_zero, List.getElem?_cons_succ, List.length_cons, List.length_nil, List.replicate_zero, List.map_cons, List.map_nil, List.nil_append, List.cons_append, Nat.reduceAdd, Nat.zero_add, noOwn, wipeR, List.all_cons, List.all_nil, List.any_cons, List.any_nil, Bool.and_true, Bool.or_false, Bool.false_or, Bool.and_self, Bool.xor_false, Bool.false_xor, Bool.true_xor, decide_true, Option.some.injEq, e_itT, e_itL, e_itS, e_pl1, e_pl2, e_ty1, e_ty2, e_ok1, e_ok2, e_min, e_one, e_two, e_three, e_nnT, e_nnS, e_fl1, e_fl2, e_fl3, e_starts, e_st2, t_var_pair, t_var_box, t_var_half, t_var_shut, t_var_mark, t_var_mix, t_pair_var, t_pair_box, t_pair_half, t_pair_shut, t_pair_mark, t_pair_mix, t_box_var, t_box_pair, t_box_half, t_box_shut, t_box_mark, t_box_mix, t_half_var, t_half_pair, t_half_box, t_half_shut, t_half_mark, t_half_mix, t_shut_var, t_shut_pair, t_shut_box, t_shut_half, t_shut_mark, t_shut_mix, t_mark_var, t_mark_pair, t_mark_box, t_mark_half, t_mark_shut, t_mark_mix, t_mix_var, t_mix_pair, t_mix_box, t_mix_half, t_mix_shut, t_mix_mark, e_n2, e_n3, Int.reduceNeg, Bool.or_true, i_str_S, i_str_T, i_str_L, i_str_I, i_int_S, i_int_T, i_int_L, i_int_I, i_bool_S, i_bool_T, i_bool_L, i_bool_I, i_list_S, i_list_T, i_list_L, i_list_I, i_tuple_S, i_tuple_T, i_tuple_L, i_tuple_I, i_dict_S, i_dict_T, i_dict_L, i_dict_I, e_ty_int, e_ty_bool, e_ty_list, e_ty_dict, e_isi2, e_pl3, e_pl4, e_eqB, e_depB, e_ok3, e_r2, e_r3, e_r0, e_for, e_i1, e_p2, e_n0, e_n4, e_ln0, e_ln1, Int.reduceEq, Int.reduceLT, Int.reduceLE, decide_false, Option.isSome_some, Option.isSome_none, Bool.or_self, Bool.true_or, ↓reduceIte, k_mix, k_rp]
    simp only [St_app]
    exact ⟨okS_pre w1, w1, q⟩
theorem sp_worded {t : Tm} (h : t.ok) (hd : t.depth ≤ 12) (hs : t.size ≤ 40) (q : Q (.str (St t.wd))) : m_worded [t.d] Xd Q := by
  simp only [e_seq, e_next, e_ret, e_retN, e_if, e_asg, e_own, e_drop, e_c, e_var0, e_varS, e_op, e_test, e_and, e_or, e_not, e_andV, e_orV, e_notV, e_ifE, e_chain, e_nil, e_cons, e_tup, e_lst, e_cb, e_call, e_sl, e_part, e_noPart, e_items, e_rng1, e_lc, e_yes, e_fn, e_rho1, e_rho2, e_rho3, e_rho4, e_isi, e_ints, e_CT, e_lenS, e_lenT, e_lenL, e_addI, e_addS, e_addL, e_int, e_intB, e_ixT, e_ixL, e_ixS, e_at0, e_at1, e_at2, e_slT, e_slL, e_slS, e_tail, e_eqS, e_eqI, e_depS, e_depI, e_isiS, e_isiT, e_isiTT, e_isiTS, e_lcN, e_lcC, e_name, e_repl, e_inT, e_inL, e_inS, e_inTab, e_ixTab, e_is, e_isNot, e_eqv, e_nev, e_starts, D.bl.injEq, D.int.injEq, D.str.injEq, D.tup.injEq, exists_eq_left', exists_eq_left, true_and, and_true, and_self, if_true, if_false, ite_true, ite_false, Bool.false_eq_true, Bool.not_true, Bool.not_false, eq_self, List.set_cons_zero, List.set_cons_succ, List.getElem?_cons_zero, List.getElem?_cons_succ, List.length_cons, List.length_nil, List.replicate_zero, List.map_cons, List.map_nil, List.nil_append, List.cons_append, Nat.reduceAdd, Nat.zero_add, noOwn, wipeR, List.all_cons, List.all_nil, List.any_cons, List.any_nil, Bool.and_true, Bool.or_false, Bool.false_or, Bool.and_self, Bool.xor_false, Bool.false_xor, Bool.true_xor, decide_true, Option.some.injEq, e_itT, e_itL, e_itS, e_pl1, e_pl2, e_ty1, e_ty2, e_ok1, e_ok2, e_min, e_one, e_two, e_three, e_nnT, e_nnS, e_fl1, e_fl2, e_fl3, e_starts, e_st2, t_var_pair, t_var_box, t_var_half, t_var_shut, t_var_mark, t_var_mix, t_pair_var, t_pair_box, t_pair_half, t_pair_shut, t_pair_mark, t_pair_mix, t_box_var, t_box_pair, t_box_half, t_box_shut, t_box_mark, t_box_mix, t_half_var, t_half_pair, t_half_box, t_half_shut, t_half_mark, t_half_mix, t_shut_var, t_shut_pair, t_shut_box, t_shut_half, t_shut_mark, t_shut_mix, t_mark_var, t_mark_pair, t_mark_box, t_mark_half, t_mark_shut, t_mark_mix, t_mix_var, t_mix_pair, t_mix_box, t_mix_half, t_mix_shut, t_mix_mark, e_n2, e_n3, Int.reduceNeg, Bool.or_true, i_str_S, i_str_T, i_str_L, i_str_I, i_int_S, i_int_T, i_int_L, i_int_I, i_bool_S, i_bool_T, i_bool_L, i_bool_I, i_list_S, i_list_T, i_list_L, i_list_I, i_tuple_S, i_tuple_T, i_tuple_L, i_tuple_I, i_dict_S, i_dict_T, i_dict_L, i_dict_I, e_ty_int, e_ty_bool, e_ty_list, e_ty_dict, e_isi2, e_pl3, e_pl4, e_eqB, e_depB, e_ok3, e_r2, e_r3, e_r0, e_for, e_i1, e_p2, e_n0, e_n4, e_ln0, e_ln1, Int.reduceEq, Int.reduceLT, Int.reduceLE, decide_false, Option.isSome_some, Option.isSome_none, Bool.or_self, Bool.true_or, ↓reduceIte, m_worded]
  refine sp_check_term h hd hs ?_
  exact sp_m_spelled t 14 _ _ h hd (by omega) q
/-! ### reading -/
def noLet (q : List Nat) : Prop := ∀ c r, q = c :: r → ¬ (97 ≤ c ∧ c ≤ 122)
theorem at_pk {T p w q : List Nat} {i : Int} {k : Nat} (hT : T = p ++ w ++ q) (hi : i = p.length) {c : Nat} (h : (w ++ q)[k]? = some c) : L2.atI (St T).cps.toList (i + (k : Int)) = some c := by
  have e : i + (k : Int) = ((p.length + k : Nat) : Int) := by omega
  rw [e, St_cps, hT, List.append_assoc]
  exact at_nat (by rw [List.getElem?_append_right (by omega)]; simpa using h)
theorem sp_word_end {T p w q : List Nat} {i : Int} (hT : T = p ++ w ++ q) (hi : i = p.length) (hw : ∀ c ∈ w, 97 ≤ c ∧ c ≤ 122) (hq : noLet q) (k : Q (.int (i + w.length))) : m_word_end [.str (St T), .int i] Xd Q := by
  simp only [e_seq, e_next, e_ret, e_retN, e_if, e_asg, e_own, e_drop, e_c, e_var0, e_varS, e_op, e_test, e_and, e_or, e_not, e_andV, e_orV, e_notV, e_ifE, e_chain, e_nil, e_cons, e_tup, e_lst, e_cb, e_call, e_sl, e_part, e_noPart, e_items, e_rng1, e_lc, e_yes, e_fn, e_rho1, e_rho2, e_rho3, e_rho4, e_isi, e_ints, e_CT, e_lenS, e_lenT, e_lenL, e_addI, e_addS, e_addL, e_int, e_intB, e_ixT, e_ixL, e_ixS, e_at0, e_at1, e_at2, e_slT, e_slL, e_slS, e_tail, e_eqS, e_eqI, e_depS, e_depI, e_isiS, e_isiT, e_isiTT, e_isiTS, e_lcN, e_lcC, e_name, e_repl, e_inT, e_inL, e_inS, e_inTab, e_ixTab, e_is, e_isNot, e_eqv, e_nev, e_starts, D.bl.injEq, D.int.injEq, D.str.injEq, D.tup.injEq, exists_eq_left', exists_eq_left, true_and, and_true, and_self, if_true, if_false, ite_true, ite_false, Bool.false_eq_true, Bool.not_true, Bool.not_false, eq_self, List.set_cons_zero, List.set_cons_succ, List.getElem?_cons_zero, List.getElem?_cons_succ, List.length_cons, List.length_nil, List.replicate_zero, List.map_cons, List.map_nil, List.nil_append, List.cons_append, Nat.reduceAdd, Nat.zero_add, noOwn, wipeR, List.all_cons, List.all_nil, List.any_cons, List.any_nil, Bool.and_true, Bool.or_false, Bool.false_or, Bool.and_self, Bool.xor_false, Bool.false_xor, Bool.true_xor, decide_true, Option.some.injEq, e_itT, e_itL, e_itS, e_pl1, e_pl2, e_ty1, e_ty2, e_ok1, e_ok2, e_min, e_one, e_two, e_three, e_nnT, e_nnS, e_fl1, e_fl2, e_fl3, e_starts, e_st2, t_var_pair, t_var_box, t_var_half, t_var_shut, t_var_mark, t_var_mix, t_pair_var, t_pair_box, t_pair_half, t_pair_shut, t_pair_mark, t_pair_mix, t_box_var, t_box_pair, t_box_half, t_box_shut, t_box_mark, t_box_mix, t_half_var, t_half_pair, t_half_box, t_half_shut, t_half_mark, t_half_mix, t_shut_var, t_shut_pair, t_shut_box, t_shut_half, t_shut_mark, t_shut_mix, t_mark_var, t_mark_pair, t_mark_box, t_mark_half, t_mark_shut, t_mark_mix, t_mix_var, t_mix_pair, t_mix_box, t_mix_half, t_mix_shut, t_mix_mark, e_n2, e_n3, Int.reduceNeg, Bool.or_true, i_str_S, i_str_T, i_str_L, i_str_I, i_int_S, i_int_T, i_int_L, i_int_I, i_bool_S, i_bool_T, i_bool_L, i_bool_I, i_list_S, i_list_T, i_list_L, i_list_I, i_tuple_S, i_tuple_T, i_tuple_L, i_tuple_I, i_dict_S, i_dict_T, i_dict_L, i_dict_I, e_ty_int, e_ty_bool, e_ty_list, e_ty_dict, e_isi2, e_pl3, e_pl4, e_eqB, e_depB, e_ok3, e_r2, e_r3, e_r0, e_for, e_i1, e_p2, e_n0, e_n4, e_ln0, e_ln1, Int.reduceEq, Int.reduceLT, Int.reduceLE, decide_false, Option.isSome_some, Option.isSome_none, Bool.or_self, Bool.true_or, ↓reduceIte, m_word_end]
  refine ⟨fun m ρ => ∃ k : Nat, k + m = w.length ∧ ρ = [some (.val (.str (St T))), some (.val (.int (i + (k : Int))))], ⟨w.length, 0, by omega, by simp⟩, ?_⟩
  rintro m ρ ⟨j, hj, rfl⟩
  have lT : T.length = p.length + w.length + q.length := by rw [hT]; simp [Nat.add_assoc]
  cases m with
  | zero =>
    have ej : j = w.length := by omega
    subst ej
    cases q with
    | nil =>
      have e : decide (i + (w.length : Int) < (T.length : Int)) = false := decide_eq_false (by simp at lT; omega)
      simp only [e_seq, e_next, e_ret, e_retN, e_if, e_asg, e_own, e_drop, e_c, e_var0, e_varS, e_op, e_test, e_and, e_or, e_not, e_andV, e_orV, e_notV, e_ifE, e_chain, e_nil, e_cons, e_tup, e_lst, e_cb, e_call, e_sl, e_part, e_noPart, e_items, e_rng1, e_lc, e_yes, e_fn, e_rho1, e_rho2, e_rho3, e_rho4, e_isi, e_ints, e_CT, e_lenS, e_lenT, e_lenL, e_addI, e_addS, e_addL, e_int, e_intB, e_ixT, e_ixL, e_ixS, e_at0, e_at1, e_at2, e_slT, e_slL, e_slS, e_tail, e_eqS, e_eqI, e_depS, e_depI, e_isiS, e_isiT, e_isiTT, e_isiTS, e_lcN, e_lcC, e_name, e_repl, e_inT, e_inL, e_inS, e_inTab, e_ixTab, e_is, e_isNot, e_eqv, e_nev, e_starts, D.bl.injEq, D.int.injEq, D.str.injEq, D.tup.injEq, exists_eq_left', exists_eq_left, true_and, and_true, and_self, if_true, if_false, ite_true, ite_false, Bool.false_eq_true, Bool.not_true, Bool.not_false, eq_self, List.set_cons_zero, List.set_cons_succ, List.getElem?_cons_zero, List.getElem?_cons_succ, List.length_cons, List.length_nil, List.replicate_zero, List.map_cons, List.map_nil, List.nil_append, List.cons_append, Nat.reduceAdd, Nat.zero_add, noOwn, wipeR, List.all_cons, List.all_nil, List.any_cons, List.any_nil, Bool.and_true, Bool.or_false, Bool.false_or, Bool.and_self, Bool.xor_false, Bool.false_xor, Bool.true_xor, decide_true, Option.some.injEq, e_itT, e_itL, e_itS, e_pl1, e_pl2, e_ty1, e_ty2, e_ok1, e_ok2, e_min, e_one, e_two, e_three, e_nnT, e_nnS, e_fl1, e_fl2, e_fl3, e_starts, e_st2, t_var_pair, t_var_box, t_var_half, t_var_shut, t_var_mark, t_var_mix, t_pair_var, t_pair_box, t_pair_half, t_pair_shut, t_pair_mark, t_pair_mix, t_box_var, t_box_pair, t_box_half, t_box_shut, t_box_mark, t_box_mix, t_half_var, t_half_pair, t_half_box, t_half_shut, t_half_mark, t_half_mix, t_shut_var, t_shut_pair, t_shut_box, t_shut_half, t_shut_mark, t_shut_mix, t_mark_var, t_mark_pair, t_mark_box, t_mark_half, t_mark_shut, t_mark_mix, t_mix_var, t_mix_pair, t_mix_box, t_mix_half, t_mix_shut, t_mix_mark, e_n2, e_n3, Int.reduceNeg, Bool.or_true, i_str_S, i_str_T, i_str_L, i_str_I, i_int_S, i_int_T, i_int_L, i_int_I, i_bool_S, i_bool_T, i_bool_L, i_bool_I, i_list_S, i_list_T, i_list_L, i_list_I, i_tuple_S, i_tuple_T, i_tuple_L, i_tuple_I, i_dict_S, i_dict_T, i_dict_L, i_dict_I, e_ty_int, e_ty_bool, e_ty_list, e_ty_dict, e_isi2, e_pl3, e_pl4, e_eqB, e_depB, e_ok3, e_r2, e_r3, e_r0, e_for, e_i1, e_p2, e_n0, e_n4, e_ln0, e_ln1, Int.reduceEq, Int.reduceLT, Int.reduceLE, decide_false, Option.isSome_some, Option.isSome_none, Bool.or_self, Bool.true_or, ↓reduceIte, St_len, e]
      exact k
    | cons c r =>
      have e : decide (i + (w.length : Int) < (T.length : Int)) = true := decide_eq_true (by simp at lT; omega)
      have e2 := at_pk (k := w.length) (c := c) hT hi (by simp)
      have e3 := decide_eq_false (fun z => hq c r rfl (small_mem.mp z))
      simp only [e_seq, e_next, e_ret, e_retN, e_if, e_asg, e_own, e_drop, e_c, e_var0, e_varS, e_op, e_test, e_and, e_or, e_not, e_andV, e_orV, e_notV, e_ifE, e_chain, e_nil, e_cons, e_tup, e_lst, e_cb, e_call, e_sl, e_part, e_noPart, e_items, e_rng1, e_lc, e_yes, e_fn, e_rho1, e_rho2, e_rho3, e_rho4, e_isi, e_ints, e_CT, e_lenS, e_lenT, e_lenL, e_addI, e_addS, e_addL, e_int, e_intB, e_ixT, e_ixL, e_ixS, e_at0, e_at1, e_at2, e_slT, e_slL, e_slS, e_tail, e_eqS, e_eqI, e_depS, e_depI, e_isiS, e_isiT, e_isiTT, e_isiTS, e_lcN, e_lcC, e_name, e_repl, e_inT, e_inL, e_inS, e_inTab, e_ixTab, e_is, e_isNot, e_eqv, e_nev, e_starts, D.bl.injEq, D.int.injEq, D.str.injEq, D.tup.injEq, exists_eq_left', exists_eq_left, true_and, and_true, and_self, if_true, if_false, ite_true, ite_false, Bool.false_eq_true, Bool.not_true, Bool.not_false, eq_self, List.set_cons_zero, List.set_cons_succ, List.getElem?_cons_zero, List.getElem?_cons_succ, List.length_cons, List.length_nil, List.replicate_zero, List.map_cons, List.map_nil, List.nil_append, List.cons_append, Nat.reduceAdd, Nat.zero_add, noOwn, wipeR, List.all_cons, List.all_nil, List.any_cons, List.any_nil, Bool.and_true, Bool.or_false, Bool.false_or, Bool.and_self, Bool.xor_false, Bool.false_xor, Bool.true_xor, decide_true, Option.some.injEq, e_itT, e_itL, e_itS, e_pl1, e_pl2, e_ty1, e_ty2, e_ok1, e_ok2, e_min, e_one, e_two, e_three, e_nnT, e_nnS, e_fl1, e_fl2, e_fl3, e_starts, e_st2, t_var_pair, t_var_box, t_var_half, t_var_shut, t_var_mark, t_var_mix, t_pair_var, t_pair_box, t_pair_half, t_pair_shut, t_pair_mark, t_pair_mix, t_box_var, t_box_pair, t_box_half, t_box_shut, t_box_mark, t_box_mix, t_half_var, t_half_pair, t_half_box, t_half_shut, t_half_mark, t_half_mix, t_shut_var, t_shut_pair, t_shut_box, t_shut_half, t_shut_mark, t_shut_mix, t_mark_var, t_mark_pair, t_mark_box, t_mark_half, t_mark_shut, t_mark_mix, t_mix_var, t_mix_pair, t_mix_box, t_mix_half, t_mix_shut, t_mix_mark, e_n2, e_n3, Int.reduceNeg, Bool.or_true, i_str_S, i_str_T, i_str_L, i_str_I, i_int_S, i_int_T, i_int_L, i_int_I, i_bool_S, i_bool_T, i_bool_L, i_bool_I, i_list_S, i_list_T, i_list_L, i_list_I, i_tuple_S, i_tuple_T, i_tuple_L, i_tuple_I, i_dict_S, i_dict_T, i_dict_L, i_dict_I, e_ty_int, e_ty_bool, e_ty_list, e_ty_dict, e_isi2, e_pl3, e_pl4, e_eqB, e_depB, e_ok3, e_r2, e_r3, e_r0, e_for, e_i1, e_p2, e_n0, e_n4, e_ln0, e_ln1, Int.reduceEq, Int.reduceLT, Int.reduceLE, decide_false, Option.isSome_some, Option.isSome_none, Bool.or_self, Bool.true_or, ↓reduceIte, St_len, e, e2, e3]
      exact k
  | succ m =>
    have e : decide (i + (j : Int) < (T.length : Int)) = true := decide_eq_true (by omega)
    have hlt : j < w.length := by omega
    have e2 := at_pk (k := j) (c := w[j]) hT hi (by rw [List.getElem?_append_left hlt]; simp)
    have e3 := decide_eq_true (small_mem.mpr (hw w[j] (List.getElem_mem _)))
    simp only [e_seq, e_next, e_ret, e_retN, e_if, e_asg, e_own, e_drop, e_c, e_var0, e_varS, e_op, e_test, e_and, e_or, e_not, e_andV, e_orV, e_notV, e_ifE, e_chain, e_nil, e_cons, e_tup, e_lst, e_cb, e_call, e_sl, e_part, e_noPart, e_items, e_rng1, e_lc, e_yes, e_fn, e_rho1, e_rho2, e_rho3, e_rho4, e_isi, e_ints, e_CT, e_lenS, e_lenT, e_lenL, e_addI, e_addS, e_addL, e_int, e_intB, e_ixT, e_ixL, e_ixS, e_at0, e_at1, e_at2, e_slT, e_slL, e_slS, e_tail, e_eqS, e_eqI, e_depS, e_depI, e_isiS, e_isiT, e_isiTT, e_isiTS, e_lcN, e_lcC, e_name, e_repl, e_inT, e_inL, e_inS, e_inTab, e_ixTab, e_is, e_isNot, e_eqv, e_nev, e_starts, D.bl.injEq, D.int.injEq, D.str.injEq, D.tup.injEq, exists_eq_left', exists_eq_left, true_and, and_true, and_self, if_true, if_false, ite_true, ite_false, Bool.false_eq_true, Bool.not_true, Bool.not_false, eq_self, List.set_cons_zero, List.set_cons_succ, List.getElem?_cons_zero, List.getElem?_cons_succ, List.length_cons, List.length_nil, List.replicate_zero, List.map_cons, List.map_nil, List.nil_append, List.cons_append, Nat.reduceAdd, Nat.zero_add, noOwn, wipeR, List.all_cons, List.all_nil, List.any_cons, List.any_nil, Bool.and_true, Bool.or_false, Bool.false_or, Bool.and_self, Bool.xor_false, Bool.false_xor, Bool.true_xor, decide_true, Option.some.injEq, e_itT, e_itL, e_itS, e_pl1, e_pl2, e_ty1, e_ty2, e_ok1, e_ok2, e_min, e_one, e_two, e_three, e_nnT, e_nnS, e_fl1, e_fl2, e_fl3, e_starts, e_st2, t_var_pair, t_var_box, t_var_half, t_var_shut, t_var_mark, t_var_mix, t_pair_var, t_pair_box, t_pair_half, t_pair_shut, t_pair_mark, t_pair_mix, t_box_var, t_box_pair, t_box_half, t_box_shut, t_box_mark, t_box_mix, t_half_var, t_half_pair, t_half_box, t_half_shut, t_half_mark, t_half_mix, t_shut_var, t_shut_pair, t_shut_box, t_shut_half, t_shut_mark, t_shut_mix, t_mark_var, t_mark_pair, t_mark_box, t_mark_half, t_mark_shut, t_mark_mix, t_mix_var, t_mix_pair, t_mix_box, t_mix_half, t_mix_shut, t_mix_mark, e_n2, e_n3, Int.reduceNeg, Bool.or_true, i_str_S, i_str_T, i_str_L, i_str_I, i_int_S, i_int_T, i_int_L, i_int_I, i_bool_S, i_bool_T, i_bool_L, i_bool_I, i_list_S, i_list_T, i_list_L, i_list_I, i_tuple_S, i_tuple_T, i_tuple_L, i_tuple_I, i_dict_S, i_dict_T, i_dict_L, i_dict_I, e_ty_int, e_ty_bool, e_ty_list, e_ty_dict, e_isi2, e_pl3, e_pl4, e_eqB, e_depB, e_ok3, e_r2, e_r3, e_r0, e_for, e_i1, e_p2, e_n0, e_n4, e_ln0, e_ln1, Int.reduceEq, Int.reduceLT, Int.reduceLE, decide_false, Option.isSome_some, Option.isSome_none, Bool.or_self, Bool.true_or, ↓reduceIte, St_len, e, e2, e3, dAug, Sl.val.injEq]
    exact ⟨m, by omega, j + 1, by omega, by simp; omega⟩
theorem isNm.cons {w : List Nat} (h : isNm w) : ∃ c r, w = c :: r ∧ 97 ≤ c ∧ c ≤ 122 := by
  cases w with
  | nil => simp [isNm] at h
  | cons c r => exact ⟨c, r, rfl, h.2.2 c (by simp)⟩
theorem cut_is {T p w q : List Nat} {i j : Int} (hT : T = p ++ w ++ q) (hi : i = p.length) (hj : j = i + w.length) : L2.cutS (St T) (some i) (some j) = St w := by
  subst hj hi hT
  exact cut_at
theorem k_qm : Str.ofString "?" = St [63] := by kernel_rfl
theorem sp_leaf_at {T p w q : List Nat} {i : Int} (hT : T = p ++ w ++ q) (hi : i = p.length) (hw : isNm w) (hq : noLet q) (k : Q (.tup [.str (St w), .int (i + w.length)])) : m_leaf_at [.str (St T), .int i] Xd Q := by
  obtain ⟨c, r, rfl, hc⟩ := isNm.cons hw
  have e1 : L2.cutS (St T) (some i) (some (i + 1)) = St [c] := cut_is (p := p) (q := r ++ q) (by rw [hT]; simp) hi (by simp)
  have e2 : decide (St [c] = St [63]) = false := decide_eq_false (by rw [St_inj]; simp; omega)
  simp only [e_seq, e_next, e_ret, e_retN, e_if, e_asg, e_own, e_drop, e_c, e_var0, e_varS, e_op, e_test, e_and, e_or, e_not, e_andV, e_orV, e_notV, e_ifE, e_chain, e_nil, e_cons, e_tup, e_lst, e_cb, e_call, e_sl, e_part, e_noPart, e_items, e_rng1, e_lc, e_yes, e_fn, e_rho1, e_rho2, e_rho3, e_rho4, e_isi, e_ints, e_CT, e_lenS, e_lenT, e_lenL, e_addI, e_addS, e_addL, e_int, e_intB, e_ixT, e_ixL, e_ixS, e_at0, e_at1, e_at2, e_slT, e_slL, e_slS, e_tail, e_eqS, e_eqI, e_depS, e_depI, e_isiS, e_isiT, e_isiTT, e_isiTS, e_lcN, e_lcC, e_name, e_repl, e_inT, e_inL, e_inS, e_inTab, e_ixTab, e_is, e_isNot, e_eqv, e_nev, e_starts, D.bl.injEq, D.int.injEq, D.str.injEq, D.tup.injEq, exists_eq_left', exists_eq_left, true_and, and_true, and_self, if_true, if_false, ite_true, ite_false, Bool.false_eq_true, Bool.not_true, Bool.not_false, eq_self, List.set_cons_zero, List.set_cons_succ, List.getElem?_cons_zero, List.getElem?_cons_succ, List.length_cons, List.length_nil, List.replicate_zero, List.map_cons, List.map_nil, List.nil_append, List.cons_append, Nat.reduceAdd, Nat.zero_add, noOwn, wipeR, List.all_cons, List.all_nil, List.any_cons, List.any_nil, Bool.and_true, Bool.or_false, Bool.false_or, Bool.and_self, Bool.xor_false, Bool.false_xor, Bool.true_xor, decide_true, Option.some.injEq, e_itT, e_itL, e_itS, e_pl1, e_pl2, e_ty1, e_ty2, e_ok1, e_ok2, e_min, e_one, e_two, e_three, e_nnT, e_nnS, e_fl1, e_fl2, e_fl3, e_starts, e_st2, t_var_pair, t_var_box, t_var_half, t_var_shut, t_var_mark, t_var_mix, t_pair_var, t_pair_box, t_pair_half, t_pair_shut, t_pair_mark, t_pair_mix, t_box_var, t_box_pair, t_box_half, t_box_shut, t_box_mark, t_box_mix, t_half_var, t_half_pair, t_half_box, t_half_shut, t_half_mark, t_half_mix, t_shut_var, t_shut_pair, t_shut_box, t_shut_half, t_shut_mark, t_shut_mix, t_mark_var, t_mark_pair, t_mark_box, t_mark_half, t_mark_shut, t_mark_mix, t_mix_var, t_mix_pair, t_mix_box, t_mix_half, t_mix_shut, t_mix_mark, e_n2, e_n3, Int.reduceNeg, Bool.or_true, i_str_S, i_str_T, i_str_L, i_str_I, i_int_S, i_int_T, i_int_L, i_int_I, i_bool_S, i_bool_T, i_bool_L, i_bool_I, i_list_S, i_list_T, i_list_L, i_list_I, i_tuple_S, i_tuple_T, i_tuple_L, i_tuple_I, i_dict_S, i_dict_T, i_dict_L, i_dict_I, e_ty_int, e_ty_bool, e_ty_list, e_ty_dict, e_isi2, e_pl3, e_pl4, e_eqB, e_depB, e_ok3, e_r2, e_r3, e_r0, e_for, e_i1, e_p2, e_n0, e_n4, e_ln0, e_ln1, Int.reduceEq, Int.reduceLT, Int.reduceLE, decide_false, Option.isSome_some, Option.isSome_none, Bool.or_self, Bool.true_or, ↓reduceIte, m_leaf_at, e1, k_qm, e2, Int.add_zero]
  refine sp_word_end hT hi hw.2.2 hq ?_
  have e3 : L2.cutS (St T) (some i) (some (i + ((c :: r).length : Int))) = St (c :: r) := cut_is hT hi rfl
  simp only [List.length_cons] at e3 k ⊢
  simp only [e_seq, e_next, e_ret, e_retN, e_if, e_asg, e_own, e_drop, e_c, e_var0, e_varS, e_op, e_test, e_and, e_or, e_not, e_andV, e_orV, e_notV, e_ifE, e_chain, e_nil, e_cons, e_tup, e_lst, e_cb, e_call, e_sl, e_part, e_noPart, e_items, e_rng1, e_lc, e_yes, e_fn, e_rho1, e_rho2, e_rho3, e_rho4, e_isi, e_ints, e_CT, e_lenS, e_lenT, e_lenL, e_addI, e_addS, e_addL, e_int, e_intB, e_ixT, e_ixL, e_ixS, e_at0, e_at1, e_at2, e_slT, e_slL, e_slS, e_tail, e_eqS, e_eqI, e_depS, e_depI, e_isiS, e_isiT, e_isiTT, e_isiTS, e_lcN, e_lcC, e_name, e_repl, e_inT, e_inL, e_inS, e_inTab, e_ixTab, e_is, e_isNot, e_eqv, e_nev, e_starts, D.bl.injEq, D.int.injEq, D.str.injEq, D.tup.injEq, exists_eq_left', exists_eq_left, true_and, and_true, and_self, if_true, if_false, ite_true, ite_false, Bool.false_eq_true, Bool.not_true, Bool.not_false, eq_self, List.set_cons_zero, List.set_cons_succ, List.getElem?_cons_zero, List.getElem?_cons_succ, List.length_cons, List.length_nil, List.replicate_zero, List.map_cons, List.map_nil, List.nil_append, List.cons_append, Nat.reduceAdd, Nat.zero_add, noOwn, wipeR, List.all_cons, List.all_nil, List.any_cons, List.any_nil, Bool.and_true, Bool.or_false, Bool.false_or, Bool.and_self, Bool.xor_false, Bool.false_xor, Bool.true_xor, decide_true, Option.some.injEq, e_itT, e_itL, e_itS, e_pl1, e_pl2, e_ty1, e_ty2, e_ok1, e_ok2, e_min, e_one, e_two, e_three, e_nnT, e_nnS, e_fl1, e_fl2, e_fl3, e_starts, e_st2, t_var_pair, t_var_box, t_var_half, t_var_shut, t_var_mark, t_var_mix, t_pair_var, t_pair_box, t_pair_half, t_pair_shut, t_pair_mark, t_pair_mix, t_box_var, t_box_pair, t_box_half, t_box_shut, t_box_mark, t_box_mix, t_half_var, t_half_pair, t_half_box, t_half_shut, t_half_mark, t_half_mix, t_shut_var, t_shut_pair, t_shut_box, t_shut_half, t_shut_mark, t_shut_mix, t_mark_var, t_mark_pair, t_mark_box, t_mark_half, t_mark_shut, t_mark_mix, t_mix_var, t_mix_pair, t_mix_box, t_mix_half, t_mix_shut, t_mix_mark, e_n2, e_n3, Int.reduceNeg, Bool.or_true, i_str_S, i_str_T, i_str_L, i_str_I, i_int_S, i_int_T, i_int_L, i_int_I, i_bool_S, i_bool_T, i_bool_L, i_bool_I, i_list_S, i_list_T, i_list_L, i_list_I, i_tuple_S, i_tuple_T, i_tuple_L, i_tuple_I, i_dict_S, i_dict_T, i_dict_L, i_dict_I, e_ty_int, e_ty_bool, e_ty_list, e_ty_dict, e_isi2, e_pl3, e_pl4, e_eqB, e_depB, e_ok3, e_r2, e_r3, e_r0, e_for, e_i1, e_p2, e_n0, e_n4, e_ln0, e_ln1, Int.reduceEq, Int.reduceLT, Int.reduceLE, decide_false, Option.isSome_some, Option.isSome_none, Bool.or_self, Bool.true_or, ↓reduceIte, e3]
  refine sp_is_name hw ?_
  simp only [e_seq, e_next, e_ret, e_retN, e_if, e_asg, e_own, e_drop, e_c, e_var0, e_varS, e_op, e_test, e_and, e_or, e_not, e_andV, e_orV, e_notV, e_ifE, e_chain, e_nil, e_cons, e_tup, e_lst, e_cb, e_call, e_sl, e_part, e_noPart, e_items, e_rng1, e_lc, e_yes, e_fn, e_rho1, e_rho2, e_rho3, e_rho4, e_isi, e_ints, e_CT, e_lenS, e_lenT, e_lenL, e_addI, e_addS, e_addL, e_int, e_intB, e_ixT, e_ixL, e_ixS, e_at0, e_at1, e_at2, e_slT, e_slL, e_slS, e_tail, e_eqS, e_eqI, e_depS, e_depI, e_isiS, e_isiT, e_isiTT, e_isiTS, e_lcN, e_lcC, e_name, e_repl, e_inT, e_inL, e_inS, e_inTab, e_ixTab, e_is, e_isNot, e_eqv, e_nev, e_starts, D.bl.injEq, D.int.injEq, D.str.injEq, D.tup.injEq, exists_eq_left', exists_eq_left, true_and, and_true, and_self, if_true, if_false, ite_true, ite_false, Bool.false_eq_true, Bool.not_true, Bool.not_false, eq_self, List.set_cons_zero, List.set_cons_succ, List.getElem?_cons_zero, List.getElem?_cons_succ, List.length_cons, List.length_nil, List.replicate_zero, List.map_cons, List.map_nil, List.nil_append, List.cons_append, Nat.reduceAdd, Nat.zero_add, noOwn, wipeR, List.all_cons, List.all_nil, List.any_cons, List.any_nil, Bool.and_true, Bool.or_false, Bool.false_or, Bool.and_self, Bool.xor_false, Bool.false_xor, Bool.true_xor, decide_true, Option.some.injEq, e_itT, e_itL, e_itS, e_pl1, e_pl2, e_ty1, e_ty2, e_ok1, e_ok2, e_min, e_one, e_two, e_three, e_nnT, e_nnS, e_fl1, e_fl2, e_fl3, e_starts, e_st2, t_var_pair, t_var_box, t_var_half, t_var_shut, t_var_mark, t_var_mix, t_pair_var, t_pair_box, t_pair_half, t_pair_shut, t_pair_mark, t_pair_mix, t_box_var, t_box_pair, t_box_half, t_box_shut, t_box_mark, t_box_mix, t_half_var, t_half_pair, t_half_box, t_half_shut, t_half_mark, t_half_mix, t_shut_var, t_shut_pair, t_shut_box, t_shut_half, t_shut_mark, t_shut_mix, t_mark_var, t_mark_pair, t_mark_box, t_mark_half, t_mark_shut, t_mark_mix, t_mix_var, t_mix_pair, t_mix_box, t_mix_half, t_mix_shut, t_mix_mark, e_n2, e_n3, Int.reduceNeg, Bool.or_true, i_str_S, i_str_T, i_str_L, i_str_I, i_int_S, i_int_T, i_int_L, i_int_I, i_bool_S, i_bool_T, i_bool_L, i_bool_I, i_list_S, i_list_T, i_list_L, i_list_I, i_tuple_S, i_tuple_T, i_tuple_L, i_tuple_I, i_dict_S, i_dict_T, i_dict_L, i_dict_I, e_ty_int, e_ty_bool, e_ty_list, e_ty_dict, e_isi2, e_pl3, e_pl4, e_eqB, e_depB, e_ok3, e_r2, e_r3, e_r0, e_for, e_i1, e_p2, e_n0, e_n4, e_ln0, e_ln1, Int.reduceEq, Int.reduceLT, Int.reduceLE, decide_false, Option.isSome_some, Option.isSome_none, Bool.or_self, Bool.true_or, ↓reduceIte]
  exact k
theorem sw {T p r m : List Nat} {i : Int} (hT : T = p ++ r) (hi : i = p.length) : Txt.startswith3 (St T) (St m) i = m.isPrefixOf r := by
  subst hi hT
  exact starts_at
theorem sp_behind {T p m q : List Nat} {i : Int} {x : D} (hT : T = p ++ m ++ q) (hi : i = p.length) (k : Q (.tup [x, .int (i + m.length)])) : m_behind [.str (St T), .tup [x, .int i], .str (St m)] Xd Q := by
  have e := sw (m := m) (T := T) (p := p) (r := m ++ q) (by rw [hT]; simp) hi
  have e2 : m.isPrefixOf (m ++ q) = true := by rw [List.isPrefixOf_iff_prefix]; exact ⟨q, rfl⟩
  rw [e2] at e
  simp only [e_seq, e_next, e_ret, e_retN, e_if, e_asg, e_own, e_drop, e_c, e_var0, e_varS, e_op, e_test, e_and, e_or, e_not, e_andV, e_orV, e_notV, e_ifE, e_chain, e_nil, e_cons, e_tup, e_lst, e_cb, e_call, e_sl, e_part, e_noPart, e_items, e_rng1, e_lc, e_yes, e_fn, e_rho1, e_rho2, e_rho3, e_rho4, e_isi, e_ints, e_CT, e_lenS, e_lenT, e_lenL, e_addI, e_addS, e_addL, e_int, e_intB, e_ixT, e_ixL, e_ixS, e_at0, e_at1, e_at2, e_slT, e_slL, e_slS, e_tail, e_eqS, e_eqI, e_depS, e_depI, e_isiS, e_isiT, e_isiTT, e_isiTS, e_lcN, e_lcC, e_name, e_repl, e_inT, e_inL, e_inS, e_inTab, e_ixTab, e_is, e_isNot, e_eqv, e_nev, e_starts, D.bl.injEq, D.int.injEq, D.str.injEq, D.tup.injEq, exists_eq_left', exists_eq_left, true_and, and_true, and_self, if_true, if_false, ite_true, ite_false, Bool.false_eq_true, Bool.not_true, Bool.not_false, eq_self, List.set_cons_zero, List.set_cons_succ, List.getElem?_cons_zero, List.getElem?_cons_succ, List.length_cons, List.length_nil, List.replicate_zero, List.map_cons, List.map_nil, List.nil_append, List.cons_append, Nat.reduceAdd, Nat.zero_add, noOwn, wipeR, List.all_cons, List.all_nil, List.any_cons, List.any_nil, Bool.and_true, Bool.or_false, Bool.false_or, Bool.and_self, Bool.xor_false, Bool.false_xor, Bool.true_xor, decide_true, Option.some.injEq, e_itT, e_itL, e_itS, e_pl1, e_pl2, e_ty1, e_ty2, e_ok1, e_ok2, e_min, e_one, e_two, e_three, e_nnT, e_nnS, e_fl1, e_fl2, e_fl3, e_starts, e_st2, t_var_pair, t_var_box, t_var_half, t_var_shut, t_var_mark, t_var_mix, t_pair_var, t_pair_box, t_pair_half, t_pair_shut, t_pair_mark, t_pair_mix, t_box_var, t_box_pair, t_box_half, t_box_shut, t_box_mark, t_box_mix, t_half_var, t_half_pair, t_half_box, t_half_shut, t_half_mark, t_half_mix, t_shut_var, t_shut_pair, t_shut_box, t_shut_half, t_shut_mark, t_shut_mix, t_mark_var, t_mark_pair, t_mark_box, t_mark_half, t_mark_shut, t_mark_mix, t_mix_var, t_mix_pair, t_mix_box, t_mix_half, t_mix_shut, t_mix_mark, e_n2, e_n3, Int.reduceNeg, Bool.or_true, i_str_S, i_str_T, i_str_L, i_str_I, i_int_S, i_int_T, i_int_L, i_int_I, i_bool_S, i_bool_T, i_bool_L, i_bool_I, i_list_S, i_list_T, i_list_L, i_list_I, i_tuple_S, i_tuple_T, i_tuple_L, i_tuple_I, i_dict_S, i_dict_T, i_dict_L, i_dict_I, e_ty_int, e_ty_bool, e_ty_list, e_ty_dict, e_isi2, e_pl3, e_pl4, e_eqB, e_depB, e_ok3, e_r2, e_r3, e_r0, e_for, e_i1, e_p2, e_n0, e_n4, e_ln0, e_ln1, Int.reduceEq, Int.reduceLT, Int.reduceLE, decide_false, Option.isSome_some, Option.isSome_none, Bool.or_self, Bool.true_or, ↓reduceIte, m_behind, e, St_len]
  exact k
def fol (q : List Nat) : Prop := q = [] ∨ (∃ r, q = 32 :: 38 :: 32 :: r) ∨ ∃ c r, q = c :: r ∧ c ≠ 32 ∧ c ≠ 40 ∧ c ≠ 60 ∧ ¬ (97 ≤ c ∧ c ≤ 122)
theorem fol.no {q : List Nat} (h : fol q) : noLet q := by
  rintro c r rfl
  rcases h with h | ⟨r', h⟩ | ⟨c', r', h, h1, h2, h3, h4⟩
  · cases h
  · cases h; omega
  · cases h; exact h4
theorem k_mixw : Str.ofString "mix" = St [109, 105, 120] := by kernel_rfl
theorem k_halfw : Str.ofString "half" = St [104, 97, 108, 102] := by kernel_rfl
theorem k_bl : Str.ofString " " = St [32] := by kernel_rfl
theorem pf1 {c x : Nat} {l : List Nat} (h : x ≠ c) : [x].isPrefixOf (c :: l) = false := by
  simp [List.isPrefixOf, h]
theorem pf0 {x : Nat} : [x].isPrefixOf ([] : List Nat) = false := rfl
theorem pf2 {x : Nat} {l : List Nat} : [x].isPrefixOf (x :: l) = true := by
  simp [List.isPrefixOf]
theorem fol.par {q : List Nat} (h : fol q) : [40].isPrefixOf q = false := by
  rcases h with rfl | ⟨r', rfl⟩ | ⟨c', r', rfl, h1, h2, h3, h4⟩
  · rfl
  · rfl
  · exact pf1 (fun e => h2 e.symm)
theorem fol.and {q : List Nat} (h : fol q) : [32].isPrefixOf q = false ∨ ([32].isPrefixOf q = true ∧ [32, 38, 32].isPrefixOf q = true) := by
  rcases h with rfl | ⟨r', rfl⟩ | ⟨c', r', rfl, h1, h2, h3, h4⟩
  · exact .inl rfl
  · exact .inr ⟨rfl, by simp [List.isPrefixOf]⟩
  · exact .inl (pf1 (fun e => h1 e.symm))
theorem fol_c {c : Nat} {r : List Nat} (h : c ≠ 32 ∧ c ≠ 40 ∧ c ≠ 60 ∧ ¬ (97 ≤ c ∧ c ≤ 122) := by omega) : fol (c :: r) := .inr (.inr ⟨c, r, rfl, h⟩)
theorem fol_and {r : List Nat} : fol (32 :: 38 :: 32 :: r) := .inr (.inl ⟨r, rfl⟩)
/-- a word's first sign is a letter: no bracket -/
theorem nobr {T p r : List Nat} {i : Int} {c x : Nat} (hT : T = p ++ c :: r) (hi : i = p.length) (h : x ≠ c) : Txt.startswith3 (St T) (St [x]) i = false := by
  rw [sw hT hi]
  exact pf1 h
theorem isbr {T p r : List Nat} {i : Int} {c : Nat} (hT : T = p ++ c :: r) (hi : i = p.length) : Txt.startswith3 (St T) (St [c]) i = true := by
  rw [sw hT hi]
  exact pf2
theorem sp_word_nm {tm : DFn} {T p w q : List Nat} {i r : Int} (hT : T = p ++ w ++ q) (hi : i = p.length) (hw : isNm w) (hq : fol q) (k : Q (.tup [.str (St w), .int (i + w.length)])) : m_word_at tm [.str (St T), .int i, .int r] Xd Q := by
  simp only [e_seq, e_next, e_ret, e_retN, e_if, e_asg, e_own, e_drop, e_c, e_var0, e_varS, e_op, e_test, e_and, e_or, e_not, e_andV, e_orV, e_notV, e_ifE, e_chain, e_nil, e_cons, e_tup, e_lst, e_cb, e_call, e_sl, e_part, e_noPart, e_items, e_rng1, e_lc, e_yes, e_fn, e_rho1, e_rho2, e_rho3, e_rho4, e_isi, e_ints, e_CT, e_lenS, e_lenT, e_lenL, e_addI, e_addS, e_addL, e_int, e_intB, e_ixT, e_ixL, e_ixS, e_at0, e_at1, e_at2, e_slT, e_slL, e_slS, e_tail, e_eqS, e_eqI, e_depS, e_depI, e_isiS, e_isiT, e_isiTT, e_isiTS, e_lcN, e_lcC, e_name, e_repl, e_inT, e_inL, e_inS, e_inTab, e_ixTab, e_is, e_isNot, e_eqv, e_nev, e_starts, D.bl.injEq, D.int.injEq, D.str.injEq, D.tup.injEq, exists_eq_left', exists_eq_left, true_and, and_true, and_self, if_true, if_false, ite_true, ite_false, Bool.false_eq_true, Bool.not_true, Bool.not_false, eq_self, List.set_cons_zero, List.set_cons_succ, List.getElem?_cons_zero, List.getElem?_cons_succ, List.length_cons, List.length_nil, List.replicate_zero, List.map_cons, List.map_nil, List.nil_append, List.cons_append, Nat.reduceAdd, Nat.zero_add, noOwn, wipeR, List.all_cons, List.all_nil, List.any_cons, List.any_nil, Bool.and_true, Bool.or_false, Bool.false_or, Bool.and_self, Bool.xor_false, Bool.false_xor, Bool.true_xor, decide_true, Option.some.injEq, e_itT, e_itL, e_itS, e_pl1, e_pl2, e_ty1, e_ty2, e_ok1, e_ok2, e_min, e_one, e_two, e_three, e_nnT, e_nnS, e_fl1, e_fl2, e_fl3, e_starts, e_st2, t_var_pair, t_var_box, t_var_half, t_var_shut, t_var_mark, t_var_mix, t_pair_var, t_pair_box, t_pair_half, t_pair_shut, t_pair_mark, t_pair_mix, t_box_var, t_box_pair, t_box_half, t_box_shut, t_box_mark, t_box_mix, t_half_var, t_half_pair, t_half_box, t_half_shut, t_half_mark, t_half_mix, t_shut_var, t_shut_pair, t_shut_box, t_shut_half, t_shut_mark, t_shut_mix, t_mark_var, t_mark_pair, t_mark_box, t_mark_half, t_mark_shut, t_mark_mix, t_mix_var, t_mix_pair, t_mix_box, t_mix_half, t_mix_shut, t_mix_mark, e_n2, e_n3, Int.reduceNeg, Bool.or_true, i_str_S, i_str_T, i_str_L, i_str_I, i_int_S, i_int_T, i_int_L, i_int_I, i_bool_S, i_bool_T, i_bool_L, i_bool_I, i_list_S, i_list_T, i_list_L, i_list_I, i_tuple_S, i_tuple_T, i_tuple_L, i_tuple_I, i_dict_S, i_dict_T, i_dict_L, i_dict_I, e_ty_int, e_ty_bool, e_ty_list, e_ty_dict, e_isi2, e_pl3, e_pl4, e_eqB, e_depB, e_ok3, e_r2, e_r3, e_r0, e_for, e_i1, e_p2, e_n0, e_n4, e_ln0, e_ln1, Int.reduceEq, Int.reduceLT, Int.reduceLE, decide_false, Option.isSome_some, Option.isSome_none, Bool.or_self, Bool.true_or, ↓reduceIte, m_word_at]
  refine sp_word_end hT hi hw.2.2 hq.no ?_
  have e3 : L2.cutS (St T) (some i) (some (i + (w.length : Int))) = St w := cut_is hT hi rfl
  have hi2 : i + (w.length : Int) = ((p ++ w).length : Int) := by simp; omega
  have e4 : Txt.startswith3 (St T) (St [40]) (i + (w.length : Int)) = false := by rw [sw hT hi2]; exact hq.par
  have fin : m_leaf_at [.str (St T), .int i] Xd Q := sp_leaf_at hT hi hw hq.no k
  simp only [e_seq, e_next, e_ret, e_retN, e_if, e_asg, e_own, e_drop, e_c, e_var0, e_varS, e_op, e_test, e_and, e_or, e_not, e_andV, e_orV, e_notV, e_ifE, e_chain, e_nil, e_cons, e_tup, e_lst, e_cb, e_call, e_sl, e_part, e_noPart, e_items, e_rng1, e_lc, e_yes, e_fn, e_rho1, e_rho2, e_rho3, e_rho4, e_isi, e_ints, e_CT, e_lenS, e_lenT, e_lenL, e_addI, e_addS, e_addL, e_int, e_intB, e_ixT, e_ixL, e_ixS, e_at0, e_at1, e_at2, e_slT, e_slL, e_slS, e_tail, e_eqS, e_eqI, e_depS, e_depI, e_isiS, e_isiT, e_isiTT, e_isiTS, e_lcN, e_lcC, e_name, e_repl, e_inT, e_inL, e_inS, e_inTab, e_ixTab, e_is, e_isNot, e_eqv, e_nev, e_starts, D.bl.injEq, D.int.injEq, D.str.injEq, D.tup.injEq, exists_eq_left', exists_eq_left, true_and, and_true, and_self, if_true, if_false, ite_true, ite_false, Bool.false_eq_true, Bool.not_true, Bool.not_false, eq_self, List.set_cons_zero, List.set_cons_succ, List.getElem?_cons_zero, List.getElem?_cons_succ, List.length_cons, List.length_nil, List.replicate_zero, List.map_cons, List.map_nil, List.nil_append, List.cons_append, Nat.reduceAdd, Nat.zero_add, noOwn, wipeR, List.all_cons, List.all_nil, List.any_cons, List.any_nil, Bool.and_true, Bool.or_false, Bool.false_or, Bool.and_self, Bool.xor_false, Bool.false_xor, Bool.true_xor, decide_true, Option.some.injEq, e_itT, e_itL, e_itS, e_pl1, e_pl2, e_ty1, e_ty2, e_ok1, e_ok2, e_min, e_one, e_two, e_three, e_nnT, e_nnS, e_fl1, e_fl2, e_fl3, e_starts, e_st2, t_var_pair, t_var_box, t_var_half, t_var_shut, t_var_mark, t_var_mix, t_pair_var, t_pair_box, t_pair_half, t_pair_shut, t_pair_mark, t_pair_mix, t_box_var, t_box_pair, t_box_half, t_box_shut, t_box_mark, t_box_mix, t_half_var, t_half_pair, t_half_box, t_half_shut, t_half_mark, t_half_mix, t_shut_var, t_shut_pair, t_shut_box, t_shut_half, t_shut_mark, t_shut_mix, t_mark_var, t_mark_pair, t_mark_box, t_mark_half, t_mark_shut, t_mark_mix, t_mix_var, t_mix_pair, t_mix_box, t_mix_half, t_mix_shut, t_mix_mark, e_n2, e_n3, Int.reduceNeg, Bool.or_true, i_str_S, i_str_T, i_str_L, i_str_I, i_int_S, i_int_T, i_int_L, i_int_I, i_bool_S, i_bool_T, i_bool_L, i_bool_I, i_list_S, i_list_T, i_list_L, i_list_I, i_tuple_S, i_tuple_T, i_tuple_L, i_tuple_I, i_dict_S, i_dict_T, i_dict_L, i_dict_I, e_ty_int, e_ty_bool, e_ty_list, e_ty_dict, e_isi2, e_pl3, e_pl4, e_eqB, e_depB, e_ok3, e_r2, e_r3, e_r0, e_for, e_i1, e_p2, e_n0, e_n4, e_ln0, e_ln1, Int.reduceEq, Int.reduceLT, Int.reduceLE, decide_false, Option.isSome_some, Option.isSome_none, Bool.or_self, Bool.true_or, ↓reduceIte, e3, k_lp, e4, k_bl, k_and]
  have e5 : Txt.startswith3 (St T) (St [32]) (i + (w.length : Int)) = false ∨ (Txt.startswith3 (St T) (St [32]) (i + (w.length : Int)) = true ∧ Txt.startswith3 (St T) (St [32, 38, 32]) (i + (w.length : Int)) = true) := by
    rw [sw hT hi2, sw hT hi2]
    exact hq.and
  rcases e5 with e5 | ⟨e5, e6⟩
  · simp only [e_seq, e_next, e_ret, e_retN, e_if, e_asg, e_own, e_drop, e_c, e_var0, e_varS, e_op, e_test, e_and, e_or, e_not, e_andV, e_orV, e_notV, e_ifE, e_chain, e_nil, e_cons, e_tup, e_lst, e_cb, e_call, e_sl, e_part, e_noPart, e_items, e_rng1, e_lc, e_yes, e_fn, e_rho1, e_rho2, e_rho3, e_rho4, e_isi, e_ints, e_CT, e_lenS, e_lenT, e_lenL, e_addI, e_addS, e_addL, e_int, e_intB, e_ixT, e_ixL, e_ixS, e_at0, e_at1, e_at2, e_slT, e_slL, e_slS, e_tail, e_eqS, e_eqI, e_depS, e_depI, e_isiS, e_isiT, e_isiTT, e_isiTS, e_lcN, e_lcC, e_name, e_repl, e_inT, e_inL, e_inS, e_inTab, e_ixTab, e_is, e_isNot, e_eqv, e_nev, e_starts, D.bl.injEq, D.int.injEq, D.str.injEq, D.tup.injEq, exists_eq_left', exists_eq_left, true_and, and_true, and_self, if_true, if_false, ite_true, ite_false, Bool.false_eq_true, Bool.not_true, Bool.not_false, eq_self, List.set_cons_zero, List.set_cons_succ, List.getElem?_cons_zero, List.getElem?_cons_succ, List.length_cons, List.length_nil, List.replicate_zero, List.map_cons, List.map_nil, List.nil_append, List.cons_append, Nat.reduceAdd, Nat.zero_add, noOwn, wipeR, List.all_cons, List.all_nil, List.any_cons, List.any_nil, Bool.and_true, Bool.or_false, Bool.false_or, Bool.and_self, Bool.xor_false, Bool.false_xor, Bool.true_xor, decide_true, Option.some.injEq, e_itT, e_itL, e_itS, e_pl1, e_pl2, e_ty1, e_ty2, e_ok1, e_ok2, e_min, e_one, e_two, e_three, e_nnT, e_nnS, e_fl1, e_fl2, e_fl3, e_starts, e_st2, t_var_pair, t_var_box, t_var_half, t_var_shut, t_var_mark, t_var_mix, t_pair_var, t_pair_box, t_pair_half, t_pair_shut, t_pair_mark, t_pair_mix, t_box_var, t_box_pair, t_box_half, t_box_shut, t_box_mark, t_box_mix, t_half_var, t_half_pair, t_half_box, t_half_shut, t_half_mark, t_half_mix, t_shut_var, t_shut_pair, t_shut_box, t_shut_half, t_shut_mark, t_shut_mix, t_mark_var, t_mark_pair, t_mark_box, t_mark_half, t_mark_shut, t_mark_mix, t_mix_var, t_mix_pair, t_mix_box, t_mix_half, t_mix_shut, t_mix_mark, e_n2, e_n3, Int.reduceNeg, Bool.or_true, i_str_S, i_str_T, i_str_L, i_str_I, i_int_S, i_int_T, i_int_L, i_int_I, i_bool_S, i_bool_T, i_bool_L, i_bool_I, i_list_S, i_list_T, i_list_L, i_list_I, i_tuple_S, i_tuple_T, i_tuple_L, i_tuple_I, i_dict_S, i_dict_T, i_dict_L, i_dict_I, e_ty_int, e_ty_bool, e_ty_list, e_ty_dict, e_isi2, e_pl3, e_pl4, e_eqB, e_depB, e_ok3, e_r2, e_r3, e_r0, e_for, e_i1, e_p2, e_n0, e_n4, e_ln0, e_ln1, Int.reduceEq, Int.reduceLT, Int.reduceLE, decide_false, Option.isSome_some, Option.isSome_none, Bool.or_self, Bool.true_or, ↓reduceIte, e5]
    cases decide (St w = Str.ofString "mix") <;> cases decide (St w = Str.ofString "half") <;> exact fin
  · simp only [e_seq, e_next, e_ret, e_retN, e_if, e_asg, e_own, e_drop, e_c, e_var0, e_varS, e_op, e_test, e_and, e_or, e_not, e_andV, e_orV, e_notV, e_ifE, e_chain, e_nil, e_cons, e_tup, e_lst, e_cb, e_call, e_sl, e_part, e_noPart, e_items, e_rng1, e_lc, e_yes, e_fn, e_rho1, e_rho2, e_rho3, e_rho4, e_isi, e_ints, e_CT, e_lenS, e_lenT, e_lenL, e_addI, e_addS, e_addL, e_int, e_intB, e_ixT, e_ixL, e_ixS, e_at0, e_at1, e_at2, e_slT, e_slL, e_slS, e_tail, e_eqS, e_eqI, e_depS, e_depI, e_isiS, e_isiT, e_isiTT, e_isiTS, e_lcN, e_lcC, e_name, e_repl, e_inT, e_inL, e_inS, e_inTab, e_ixTab, e_is, e_isNot, e_eqv, e_nev, e_starts, D.bl.injEq, D.int.injEq, D.str.injEq, D.tup.injEq, exists_eq_left', exists_eq_left, true_and, and_true, and_self, if_true, if_false, ite_true, ite_false, Bool.false_eq_true, Bool.not_true, Bool.not_false, eq_self, List.set_cons_zero, List.set_cons_succ, List.getElem?_cons_zero, List.getElem?_cons_succ, List.length_cons, List.length_nil, List.replicate_zero, List.map_cons, List.map_nil, List.nil_append, List.cons_append, Nat.reduceAdd, Nat.zero_add, noOwn, wipeR, List.all_cons, List.all_nil, List.any_cons, List.any_nil, Bool.and_true, Bool.or_false, Bool.false_or, Bool.and_self, Bool.xor_false, Bool.false_xor, Bool.true_xor, decide_true, Option.some.injEq, e_itT, e_itL, e_itS, e_pl1, e_pl2, e_ty1, e_ty2, e_ok1, e_ok2, e_min, e_one, e_two, e_three, e_nnT, e_nnS, e_fl1, e_fl2, e_fl3, e_starts, e_st2, t_var_pair, t_var_box, t_var_half, t_var_shut, t_var_mark, t_var_mix, t_pair_var, t_pair_box, t_pair_half, t_pair_shut, t_pair_mark, t_pair_mix, t_box_var, t_box_pair, t_box_half, t_box_shut, t_box_mark, t_box_mix, t_half_var, t_half_pair, t_half_box, t_half_shut, t_half_mark, t_half_mix, t_shut_var, t_shut_pair, t_shut_box, t_shut_half, t_shut_mark, t_shut_mix, t_mark_var, t_mark_pair, t_mark_box, t_mark_half, t_mark_shut, t_mark_mix, t_mix_var, t_mix_pair, t_mix_box, t_mix_half, t_mix_shut, t_mix_mark, e_n2, e_n3, Int.reduceNeg, Bool.or_true, i_str_S, i_str_T, i_str_L, i_str_I, i_int_S, i_int_T, i_int_L, i_int_I, i_bool_S, i_bool_T, i_bool_L, i_bool_I, i_list_S, i_list_T, i_list_L, i_list_I, i_tuple_S, i_tuple_T, i_tuple_L, i_tuple_I, i_dict_S, i_dict_T, i_dict_L, i_dict_I, e_ty_int, e_ty_bool, e_ty_list, e_ty_dict, e_isi2, e_pl3, e_pl4, e_eqB, e_depB, e_ok3, e_r2, e_r3, e_r0, e_for, e_i1, e_p2, e_n0, e_n4, e_ln0, e_ln1, Int.reduceEq, Int.reduceLT, Int.reduceLE, decide_false, Option.isSome_some, Option.isSome_none, Bool.or_self, Bool.true_or, ↓reduceIte, e5, e6]
    cases decide (St w = Str.ofString "mix") <;> cases decide (St w = Str.ofString "half") <;> exact fin
theorem sp_term_at : ∀ (t : Tm) (n : Nat) (T p q : List Nat) (i r : Int) (Xd : Err → Prop) (Q : D → Prop), T = p ++ t.wd ++ q → i = p.length → t.ok → t.depth ≤ r → t.depth ≤ n → fol q → Q (.tup [t.d, .int (i + t.wd.length)]) → m_term_at n [.str (St T), .int i, .int r] Xd Q
  | t, 0, T, p, q, i, r, Xd, Q, hT, hi, h, hr, hn, hq, k => by
    have := Tm.dpos t
    omega
  | .nm s, n + 1, T, p, q, i, r, Xd, Q, hT, hi, h, hr, hn, hq, k => by
    simp only [Tm.wd, Tm.depth, Tm.d] at hT hr hn k
    have e0 : decide (r = 0) = false := decide_eq_false (by omega)
    obtain ⟨c, w, hs, hc⟩ := isNm.cons h
    have hT2 : T = p ++ c :: (w ++ q) := by rw [hT, hs]; simp
    have b1 := nobr (x := 40) hT2 hi (by omega)
    have b2 := nobr (x := 91) hT2 hi (by omega)
    have b3 := nobr (x := 123) hT2 hi (by omega)
    simp only [e_seq, e_next, e_ret, e_retN, e_if, e_asg, e_own, e_drop, e_c, e_var0, e_varS, e_op, e_test, e_and, e_or, e_not, e_andV, e_orV, e_notV, e_ifE, e_chain, e_nil, e_cons, e_tup, e_lst, e_cb, e_call, e_sl, e_part, e_noPart, e_items, e_rng1, e_lc, e_yes, e_fn, e_rho1, e_rho2, e_rho3, e_rho4, e_isi, e_ints, e_CT, e_lenS, e_lenT, e_lenL, e_addI, e_addS, e_addL, e_int, e_intB, e_ixT, e_ixL, e_ixS, e_at0, e_at1, e_at2, e_slT, e_slL, e_slS, e_tail, e_eqS, e_eqI, e_depS, e_depI, e_isiS, e_isiT, e_isiTT, e_isiTS, e_lcN, e_lcC, e_name, e_repl, e_inT, e_inL, e_inS, e_inTab, e_ixTab, e_is, e_isNot, e_eqv, e_nev, e_starts, D.bl.injEq, D.int.injEq, D.str.injEq, D.tup.injEq, exists_eq_left', exists_eq_left, true_and, and_true, and_self, if_true, if_false, ite_true, ite_false, Bool.false_eq_true, Bool.not_true, Bool.not_false, eq_self, List.set_cons_zero, List.set_cons_succ, List.getElem?_cons_zero, List.getElem?_cons_succ, List.length_cons, List.length_nil, List.replicate_zero, List.map_cons, List.map_nil, List.nil_append, List.cons_append, Nat.reduceAdd, Nat.zero_add, noOwn, wipeR, List.all_cons, List.all_nil, List.any_cons, List.any_nil, Bool.and_true, Bool.or_false, Bool.false_or, Bool.and_self, Bool.xor_false, Bool.false_xor, Bool.true_xor, decide_true, Option.some.injEq, e_itT, e_itL, e_itS, e_pl1, e_pl2, e_ty1, e_ty2, e_ok1, e_ok2, e_min, e_one, e_two, e_three, e_nnT, e_nnS, e_fl1, e_fl2, e_fl3, e_starts, e_st2, t_var_pair, t_var_box, t_var_half, t_var_shut, t_var_mark, t_var_mix, t_pair_var, t_pair_box, t_pair_half, t_pair_shut, t_pair_mark, t_pair_mix, t_box_var, t_box_pair, t_box_half, t_box_shut, t_box_mark, t_box_mix, t_half_var, t_half_pair, t_half_box, t_half_shut, t_half_mark, t_half_mix, t_shut_var, t_shut_pair, t_shut_box, t_shut_half, t_shut_mark, t_shut_mix, t_mark_var, t_mark_pair, t_mark_box, t_mark_half, t_mark_shut, t_mark_mix, t_mix_var, t_mix_pair, t_mix_box, t_mix_half, t_mix_shut, t_mix_mark, e_n2, e_n3, Int.reduceNeg, Bool.or_true, i_str_S, i_str_T, i_str_L, i_str_I, i_int_S, i_int_T, i_int_L, i_int_I, i_bool_S, i_bool_T, i_bool_L, i_bool_I, i_list_S, i_list_T, i_list_L, i_list_I, i_tuple_S, i_tuple_T, i_tuple_L, i_tuple_I, i_dict_S, i_dict_T, i_dict_L, i_dict_I, e_ty_int, e_ty_bool, e_ty_list, e_ty_dict, e_isi2, e_pl3, e_pl4, e_eqB, e_depB, e_ok3, e_r2, e_r3, e_r0, e_for, e_i1, e_p2, e_n0, e_n4, e_ln0, e_ln1, Int.reduceEq, Int.reduceLT, Int.reduceLE, decide_false, Option.isSome_some, Option.isSome_none, Bool.or_self, Bool.true_or, ↓reduceIte, m_term_at, e0, k_lp, k_lb, k_lc, b1, b2, b3]
    exact sp_word_nm hT hi h hq k
  | .pair a b, n + 1, T, p, q, i, r, Xd, Q, hT, hi, h, hr, hn, hq, k => by
    simp only [Tm.wd, Tm.depth, Tm.d] at hT hr hn k
    have e0 : decide (r = 0) = false := decide_eq_false (by have := Tm.dpos a; omega)
    have b1 := isbr (T := T) (p := p) (c := 40) (r := a.wd ++ [32, 38, 32] ++ b.wd ++ [41] ++ q) (by rw [hT]; simp) hi
    simp only [e_seq, e_next, e_ret, e_retN, e_if, e_asg, e_own, e_drop, e_c, e_var0, e_varS, e_op, e_test, e_and, e_or, e_not, e_andV, e_orV, e_notV, e_ifE, e_chain, e_nil, e_cons, e_tup, e_lst, e_cb, e_call, e_sl, e_part, e_noPart, e_items, e_rng1, e_lc, e_yes, e_fn, e_rho1, e_rho2, e_rho3, e_rho4, e_isi, e_ints, e_CT, e_lenS, e_lenT, e_lenL, e_addI, e_addS, e_addL, e_int, e_intB, e_ixT, e_ixL, e_ixS, e_at0, e_at1, e_at2, e_slT, e_slL, e_slS, e_tail, e_eqS, e_eqI, e_depS, e_depI, e_isiS, e_isiT, e_isiTT, e_isiTS, e_lcN, e_lcC, e_name, e_repl, e_inT, e_inL, e_inS, e_inTab, e_ixTab, e_is, e_isNot, e_eqv, e_nev, e_starts, D.bl.injEq, D.int.injEq, D.str.injEq, D.tup.injEq, exists_eq_left', exists_eq_left, true_and, and_true, and_self, if_true, if_false, ite_true, ite_false, Bool.false_eq_true, Bool.not_true, Bool.not_false, eq_self, List.set_cons_zero, List.set_cons_succ, List.getElem?_cons_zero, List.getElem?_cons_succ, List.length_cons, List.length_nil, List.replicate_zero, List.map_cons, List.map_nil, List.nil_append, List.cons_append, Nat.reduceAdd, Nat.zero_add, noOwn, wipeR, List.all_cons, List.all_nil, List.any_cons, List.any_nil, Bool.and_true, Bool.or_false, Bool.false_or, Bool.and_self, Bool.xor_false, Bool.false_xor, Bool.true_xor, decide_true, Option.some.injEq, e_itT, e_itL, e_itS, e_pl1, e_pl2, e_ty1, e_ty2, e_ok1, e_ok2, e_min, e_one, e_two, e_three, e_nnT, e_nnS, e_fl1, e_fl2, e_fl3, e_starts, e_st2, t_var_pair, t_var_box, t_var_half, t_var_shut, t_var_mark, t_var_mix, t_pair_var, t_pair_box, t_pair_half, t_pair_shut, t_pair_mark, t_pair_mix, t_box_var, t_box_pair, t_box_half, t_box_shut, t_box_mark, t_box_mix, t_half_var, t_half_pair, t_half_box, t_half_shut, t_half_mark, t_half_mix, t_shut_var, t_shut_pair, t_shut_box, t_shut_half, t_shut_mark, t_shut_mix, t_mark_var, t_mark_pair, t_mark_box, t_mark_half, t_mark_shut, t_mark_mix, t_mix_var, t_mix_pair, t_mix_box, t_mix_half, t_mix_shut, t_mix_mark, e_n2, e_n3, Int.reduceNeg, Bool.or_true, i_str_S, i_str_T, i_str_L, i_str_I, i_int_S, i_int_T, i_int_L, i_int_I, i_bool_S, i_bool_T, i_bool_L, i_bool_I, i_list_S, i_list_T, i_list_L, i_list_I, i_tuple_S, i_tuple_T, i_tuple_L, i_tuple_I, i_dict_S, i_dict_T, i_dict_L, i_dict_I, e_ty_int, e_ty_bool, e_ty_list, e_ty_dict, e_isi2, e_pl3, e_pl4, e_eqB, e_depB, e_ok3, e_r2, e_r3, e_r0, e_for, e_i1, e_p2, e_n0, e_n4, e_ln0, e_ln1, Int.reduceEq, Int.reduceLT, Int.reduceLE, decide_false, Option.isSome_some, Option.isSome_none, Bool.or_self, Bool.true_or, ↓reduceIte, m_term_at, e0, k_lp, b1, m_round_at]
    refine sp_term_at a n T (p ++ [40]) ([32, 38, 32] ++ b.wd ++ [41] ++ q) _ _ _ _ (by rw [hT]; simp) (by simp; omega) h.1 (by omega) (by omega) fol_and ?_
    have b2 : Txt.startswith3 (St T) (St [32, 38, 32]) (i + 1 + (a.wd.length : Int)) = true := by
      rw [sw (p := p ++ [40] ++ a.wd) (r := [32, 38, 32] ++ (b.wd ++ [41] ++ q)) (by rw [hT]; simp) (by simp; omega), List.isPrefixOf_iff_prefix]
      exact ⟨_, rfl⟩
    simp only [e_seq, e_next, e_ret, e_retN, e_if, e_asg, e_own, e_drop, e_c, e_var0, e_varS, e_op, e_test, e_and, e_or, e_not, e_andV, e_orV, e_notV, e_ifE, e_chain, e_nil, e_cons, e_tup, e_lst, e_cb, e_call, e_sl, e_part, e_noPart, e_items, e_rng1, e_lc, e_yes, e_fn, e_rho1, e_rho2, e_rho3, e_rho4, e_isi, e_ints, e_CT, e_lenS, e_lenT, e_lenL, e_addI, e_addS, e_addL, e_int, e_intB, e_ixT, e_ixL, e_ixS, e_at0, e_at1, e_at2, e_slT, e_slL, e_slS, e_tail, e_eqS, e_eqI, e_depS, e_depI, e_isiS, e_isiT, e_isiTT, e_isiTS, e_lcN, e_lcC, e_name, e_repl, e_inT, e_inL, e_inS, e_inTab, e_ixTab, e_is, e_isNot, e_eqv, e_nev, e_starts, D.bl.injEq, D.int.injEq, D.str.injEq, D.tup.injEq, exists_eq_left', exists_eq_left, true_and, and_true, and_self, if_true, if_false, ite_true, ite_false, Bool.false_eq_true, Bool.not_true, Bool.not_false, eq_self, List.set_cons_zero, List.set_cons_succ, List.getElem?_cons_zero, List.getElem?_cons_succ, List.length_cons, List.length_nil, List.replicate_zero, List.map_cons, List.map_nil, List.nil_append, List.cons_append, Nat.reduceAdd, Nat.zero_add, noOwn, wipeR, List.all_cons, List.all_nil, List.any_cons, List.any_nil, Bool.and_true, Bool.or_false, Bool.false_or, Bool.and_self, Bool.xor_false, Bool.false_xor, Bool.true_xor, decide_true, Option.some.injEq, e_itT, e_itL, e_itS, e_pl1, e_pl2, e_ty1, e_ty2, e_ok1, e_ok2, e_min, e_one, e_two, e_three, e_nnT, e_nnS, e_fl1, e_fl2, e_fl3, e_starts, e_st2, t_var_pair, t_var_box, t_var_half, t_var_shut, t_var_mark, t_var_mix, t_pair_var, t_pair_box, t_pair_half, t_pair_shut, t_pair_mark, t_pair_mix, t_box_var, t_box_pair, t_box_half, t_box_shut, t_box_mark, t_box_mix, t_half_var, t_half_pair, t_half_box, t_half_shut, t_half_mark, t_half_mix, t_shut_var, t_shut_pair, t_shut_box, t_shut_half, t_shut_mark, t_shut_mix, t_mark_var, t_mark_pair, t_mark_box, t_mark_half, t_mark_shut, t_mark_mix, t_mix_var, t_mix_pair, t_mix_box, t_mix_half, t_mix_shut, t_mix_mark, e_n2, e_n3, Int.reduceNeg, Bool.or_true, i_str_S, i_str_T, i_str_L, i_str_I, i_int_S, i_int_T, i_int_L, i_int_I, i_bool_S, i_bool_T, i_bool_L, i_bool_I, i_list_S, i_list_T, i_list_L, i_list_I, i_tuple_S, i_tuple_T, i_tuple_L, i_tuple_I, i_dict_S, i_dict_T, i_dict_L, i_dict_I, e_ty_int, e_ty_bool, e_ty_list, e_ty_dict, e_isi2, e_pl3, e_pl4, e_eqB, e_depB, e_ok3, e_r2, e_r3, e_r0, e_for, e_i1, e_p2, e_n0, e_n4, e_ln0, e_ln1, Int.reduceEq, Int.reduceLT, Int.reduceLE, decide_false, Option.isSome_some, Option.isSome_none, Bool.or_self, Bool.true_or, ↓reduceIte, k_and, b2, St_len]
    refine sp_term_at b n T (p ++ [40] ++ a.wd ++ [32, 38, 32]) ([41] ++ q) _ _ _ _ (by rw [hT]; simp) (by simp; omega) h.2 (by omega) (by omega) fol_c ?_
    simp only [e_seq, e_next, e_ret, e_retN, e_if, e_asg, e_own, e_drop, e_c, e_var0, e_varS, e_op, e_test, e_and, e_or, e_not, e_andV, e_orV, e_notV, e_ifE, e_chain, e_nil, e_cons, e_tup, e_lst, e_cb, e_call, e_sl, e_part, e_noPart, e_items, e_rng1, e_lc, e_yes, e_fn, e_rho1, e_rho2, e_rho3, e_rho4, e_isi, e_ints, e_CT, e_lenS, e_lenT, e_lenL, e_addI, e_addS, e_addL, e_int, e_intB, e_ixT, e_ixL, e_ixS, e_at0, e_at1, e_at2, e_slT, e_slL, e_slS, e_tail, e_eqS, e_eqI, e_depS, e_depI, e_isiS, e_isiT, e_isiTT, e_isiTS, e_lcN, e_lcC, e_name, e_repl, e_inT, e_inL, e_inS, e_inTab, e_ixTab, e_is, e_isNot, e_eqv, e_nev, e_starts, D.bl.injEq, D.int.injEq, D.str.injEq, D.tup.injEq, exists_eq_left', exists_eq_left, true_and, and_true, and_self, if_true, if_false, ite_true, ite_false, Bool.false_eq_true, Bool.not_true, Bool.not_false, eq_self, List.set_cons_zero, List.set_cons_succ, List.getElem?_cons_zero, List.getElem?_cons_succ, List.length_cons, List.length_nil, List.replicate_zero, List.map_cons, List.map_nil, List.nil_append, List.cons_append, Nat.reduceAdd, Nat.zero_add, noOwn, wipeR, List.all_cons, List.all_nil, List.any_cons, List.any_nil, Bool.and_true, Bool.or_false, Bool.false_or, Bool.and_self, Bool.xor_false, Bool.false_xor, Bool.true_xor, decide_true, Option.some.injEq, e_itT, e_itL, e_itS, e_pl1, e_pl2, e_ty1, e_ty2, e_ok1, e_ok2, e_min, e_one, e_two, e_three, e_nnT, e_nnS, e_fl1, e_fl2, e_fl3, e_starts, e_st2, t_var_pair, t_var_box, t_var_half, t_var_shut, t_var_mark, t_var_mix, t_pair_var, t_pair_box, t_pair_half, t_pair_shut, t_pair_mark, t_pair_mix, t_box_var, t_box_pair, t_box_half, t_box_shut, t_box_mark, t_box_mix, t_half_var, t_half_pair, t_half_box, t_half_shut, t_half_mark, t_half_mix, t_shut_var, t_shut_pair, t_shut_box, t_shut_half, t_shut_mark, t_shut_mix, t_mark_var, t_mark_pair, t_mark_box, t_mark_half, t_mark_shut, t_mark_mix, t_mix_var, t_mix_pair, t_mix_box, t_mix_half, t_mix_shut, t_mix_mark, e_n2, e_n3, Int.reduceNeg, Bool.or_true, i_str_S, i_str_T, i_str_L, i_str_I, i_int_S, i_int_T, i_int_L, i_int_I, i_bool_S, i_bool_T, i_bool_L, i_bool_I, i_list_S, i_list_T, i_list_L, i_list_I, i_tuple_S, i_tuple_T, i_tuple_L, i_tuple_I, i_dict_S, i_dict_T, i_dict_L, i_dict_I, e_ty_int, e_ty_bool, e_ty_list, e_ty_dict, e_isi2, e_pl3, e_pl4, e_eqB, e_depB, e_ok3, e_r2, e_r3, e_r0, e_for, e_i1, e_p2, e_n0, e_n4, e_ln0, e_ln1, Int.reduceEq, Int.reduceLT, Int.reduceLE, decide_false, Option.isSome_some, Option.isSome_none, Bool.or_self, Bool.true_or, ↓reduceIte, k_rp]
    refine sp_behind (p := p ++ [40] ++ a.wd ++ [32, 38, 32] ++ b.wd) (q := q) (by rw [hT]; simp) (by simp; omega) ?_
    simp only [e_seq, e_next, e_ret, e_retN, e_if, e_asg, e_own, e_drop, e_c, e_var0, e_varS, e_op, e_test, e_and, e_or, e_not, e_andV, e_orV, e_notV, e_ifE, e_chain, e_nil, e_cons, e_tup, e_lst, e_cb, e_call, e_sl, e_part, e_noPart, e_items, e_rng1, e_lc, e_yes, e_fn, e_rho1, e_rho2, e_rho3, e_rho4, e_isi, e_ints, e_CT, e_lenS, e_lenT, e_lenL, e_addI, e_addS, e_addL, e_int, e_intB, e_ixT, e_ixL, e_ixS, e_at0, e_at1, e_at2, e_slT, e_slL, e_slS, e_tail, e_eqS, e_eqI, e_depS, e_depI, e_isiS, e_isiT, e_isiTT, e_isiTS, e_lcN, e_lcC, e_name, e_repl, e_inT, e_inL, e_inS, e_inTab, e_ixTab, e_is, e_isNot, e_eqv, e_nev, e_starts, D.bl.injEq, D.int.injEq, D.str.injEq, D.tup.injEq, exists_eq_left', exists_eq_left, true_and, and_true, and_self, if_true, if_false, ite_true, ite_false, Bool.false_eq_true, Bool.not_true, Bool.not_false, eq_self, List.set_cons_zero, List.set_cons_succ, List.getElem?_cons_zero, List.getElem?_cons_succ, List.length_cons, List.length_nil, List.replicate_zero, List.map_cons, List.map_nil, List.nil_append, List.cons_append, Nat.reduceAdd, Nat.zero_add, noOwn, wipeR, List.all_cons, List.all_nil, List.any_cons, List.any_nil, Bool.and_true, Bool.or_false, Bool.false_or, Bool.and_self, Bool.xor_false, Bool.false_xor, Bool.true_xor, decide_true, Option.some.injEq, e_itT, e_itL, e_itS, e_pl1, e_pl2, e_ty1, e_ty2, e_ok1, e_ok2, e_min, e_one, e_two, e_three, e_nnT, e_nnS, e_fl1, e_fl2, e_fl3, e_starts, e_st2, t_var_pair, t_var_box, t_var_half, t_var_shut, t_var_mark, t_var_mix, t_pair_var, t_pair_box, t_pair_half, t_pair_shut, t_pair_mark, t_pair_mix, t_box_var, t_box_pair, t_box_half, t_box_shut, t_box_mark, t_box_mix, t_half_var, t_half_pair, t_half_box, t_half_shut, t_half_mark, t_half_mix, t_shut_var, t_shut_pair, t_shut_box, t_shut_half, t_shut_mark, t_shut_mix, t_mark_var, t_mark_pair, t_mark_box, t_mark_half, t_mark_shut, t_mark_mix, t_mix_var, t_mix_pair, t_mix_box, t_mix_half, t_mix_shut, t_mix_mark, e_n2, e_n3, Int.reduceNeg, Bool.or_true, i_str_S, i_str_T, i_str_L, i_str_I, i_int_S, i_int_T, i_int_L, i_int_I, i_bool_S, i_bool_T, i_bool_L, i_bool_I, i_list_S, i_list_T, i_list_L, i_list_I, i_tuple_S, i_tuple_T, i_tuple_L, i_tuple_I, i_dict_S, i_dict_T, i_dict_L, i_dict_I, e_ty_int, e_ty_bool, e_ty_list, e_ty_dict, e_isi2, e_pl3, e_pl4, e_eqB, e_depB, e_ok3, e_r2, e_r3, e_r0, e_for, e_i1, e_p2, e_n0, e_n4, e_ln0, e_ln1, Int.reduceEq, Int.reduceLT, Int.reduceLE, decide_false, Option.isSome_some, Option.isSome_none, Bool.or_self, Bool.true_or, ↓reduceIte]
    have e : i + (([40] ++ a.wd ++ [32, 38, 32] ++ b.wd ++ [41]).length : Int) = i + 1 + (a.wd.length : Int) + 3 + (b.wd.length : Int) + ((0 + 1 : Nat) : Int) := by simp; omega
    rw [e] at k
    exact k
  | .box a b, n + 1, T, p, q, i, r, Xd, Q, hT, hi, h, hr, hn, hq, k => by
    simp only [Tm.wd, Tm.depth, Tm.d] at hT hr hn k
    have e0 : decide (r = 0) = false := decide_eq_false (by have := Tm.dpos a; omega)
    have b0 := nobr (T := T) (p := p) (c := 91) (x := 40) (r := b.wd ++ [93] ++ Tm.key a.wd a ++ q) (by rw [hT]; simp) hi (by decide)
    have b1 := isbr (T := T) (p := p) (c := 91) (r := b.wd ++ [93] ++ Tm.key a.wd a ++ q) (by rw [hT]; simp) hi
    simp only [e_seq, e_next, e_ret, e_retN, e_if, e_asg, e_own, e_drop, e_c, e_var0, e_varS, e_op, e_test, e_and, e_or, e_not, e_andV, e_orV, e_notV, e_ifE, e_chain, e_nil, e_cons, e_tup, e_lst, e_cb, e_call, e_sl, e_part, e_noPart, e_items, e_rng1, e_lc, e_yes, e_fn, e_rho1, e_rho2, e_rho3, e_rho4, e_isi, e_ints, e_CT, e_lenS, e_lenT, e_lenL, e_addI, e_addS, e_addL, e_int, e_intB, e_ixT, e_ixL, e_ixS, e_at0, e_at1, e_at2, e_slT, e_slL, e_slS, e_tail, e_eqS, e_eqI, e_depS, e_depI, e_isiS, e_isiT, e_isiTT, e_isiTS, e_lcN, e_lcC, e_name, e_repl, e_inT, e_inL, e_inS, e_inTab, e_ixTab, e_is, e_isNot, e_eqv, e_nev, e_starts, D.bl.injEq, D.int.injEq, D.str.injEq, D.tup.injEq, exists_eq_left', exists_eq_left, true_and, and_true, and_self, if_true, if_false, ite_true, ite_false, Bool.false_eq_true, Bool.not_true, Bool.not_false, eq_self, List.set_cons_zero, List.set_cons_succ, List.getElem?_cons_zero, List.getElem?_cons_succ, List.length_cons, List.length_nil, List.replicate_zero, List.map_cons, List.map_nil, List.nil_append, List.cons_append, Nat.reduceAdd, Nat.zero_add, noOwn, wipeR, List.all_cons, List.all_nil, List.any_cons, List.any_nil, Bool.and_true, Bool.or_false, Bool.false_or, Bool.and_self, Bool.xor_false, Bool.false_xor, Bool.true_xor, decide_true, Option.some.injEq, e_itT, e_itL, e_itS, e_pl1, e_pl2, e_ty1, e_ty2, e_ok1, e_ok2, e_min, e_one, e_two, e_three, e_nnT, e_nnS, e_fl1, e_fl2, e_fl3, e_starts, e_st2, t_var_pair, t_var_box, t_var_half, t_var_shut, t_var_mark, t_var_mix, t_pair_var, t_pair_box, t_pair_half, t_pair_shut, t_pair_mark, t_pair_mix, t_box_var, t_box_pair, t_box_half, t_box_shut, t_box_mark, t_box_mix, t_half_var, t_half_pair, t_half_box, t_half_shut, t_half_mark, t_half_mix, t_shut_var, t_shut_pair, t_shut_box, t_shut_half, t_shut_mark, t_shut_mix, t_mark_var, t_mark_pair, t_mark_box, t_mark_half, t_mark_shut, t_mark_mix, t_mix_var, t_mix_pair, t_mix_box, t_mix_half, t_mix_shut, t_mix_mark, e_n2, e_n3, Int.reduceNeg, Bool.or_true, i_str_S, i_str_T, i_str_L, i_str_I, i_int_S, i_int_T, i_int_L, i_int_I, i_bool_S, i_bool_T, i_bool_L, i_bool_I, i_list_S, i_list_T, i_list_L, i_list_I, i_tuple_S, i_tuple_T, i_tuple_L, i_tuple_I, i_dict_S, i_dict_T, i_dict_L, i_dict_I, e_ty_int, e_ty_bool, e_ty_list, e_ty_dict, e_isi2, e_pl3, e_pl4, e_eqB, e_depB, e_ok3, e_r2, e_r3, e_r0, e_for, e_i1, e_p2, e_n0, e_n4, e_ln0, e_ln1, Int.reduceEq, Int.reduceLT, Int.reduceLE, decide_false, Option.isSome_some, Option.isSome_none, Bool.or_self, Bool.true_or, ↓reduceIte, m_term_at, e0, k_lp, k_lb, b0, b1, m_box_at]
    refine sp_term_at b n T (p ++ [91]) ([93] ++ Tm.key a.wd a ++ q) _ _ _ _ (by rw [hT]; simp) (by simp; omega) h.2 (by omega) (by omega) fol_c ?_
    simp only [e_seq, e_next, e_ret, e_retN, e_if, e_asg, e_own, e_drop, e_c, e_var0, e_varS, e_op, e_test, e_and, e_or, e_not, e_andV, e_orV, e_notV, e_ifE, e_chain, e_nil, e_cons, e_tup, e_lst, e_cb, e_call, e_sl, e_part, e_noPart, e_items, e_rng1, e_lc, e_yes, e_fn, e_rho1, e_rho2, e_rho3, e_rho4, e_isi, e_ints, e_CT, e_lenS, e_lenT, e_lenL, e_addI, e_addS, e_addL, e_int, e_intB, e_ixT, e_ixL, e_ixS, e_at0, e_at1, e_at2, e_slT, e_slL, e_slS, e_tail, e_eqS, e_eqI, e_depS, e_depI, e_isiS, e_isiT, e_isiTT, e_isiTS, e_lcN, e_lcC, e_name, e_repl, e_inT, e_inL, e_inS, e_inTab, e_ixTab, e_is, e_isNot, e_eqv, e_nev, e_starts, D.bl.injEq, D.int.injEq, D.str.injEq, D.tup.injEq, exists_eq_left', exists_eq_left, true_and, and_true, and_self, if_true, if_false, ite_true, ite_false, Bool.false_eq_true, Bool.not_true, Bool.not_false, eq_self, List.set_cons_zero, List.set_cons_succ, List.getElem?_cons_zero, List.getElem?_cons_succ, List.length_cons, List.length_nil, List.replicate_zero, List.map_cons, List.map_nil, List.nil_append, List.cons_append, Nat.reduceAdd, Nat.zero_add, noOwn, wipeR, List.all_cons, List.all_nil, List.any_cons, List.any_nil, Bool.and_true, Bool.or_false, Bool.false_or, Bool.and_self, Bool.xor_false, Bool.false_xor, Bool.true_xor, decide_true, Option.some.injEq, e_itT, e_itL, e_itS, e_pl1, e_pl2, e_ty1, e_ty2, e_ok1, e_ok2, e_min, e_one, e_two, e_three, e_nnT, e_nnS, e_fl1, e_fl2, e_fl3, e_starts, e_st2, t_var_pair, t_var_box, t_var_half, t_var_shut, t_var_mark, t_var_mix, t_pair_var, t_pair_box, t_pair_half, t_pair_shut, t_pair_mark, t_pair_mix, t_box_var, t_box_pair, t_box_half, t_box_shut, t_box_mark, t_box_mix, t_half_var, t_half_pair, t_half_box, t_half_shut, t_half_mark, t_half_mix, t_shut_var, t_shut_pair, t_shut_box, t_shut_half, t_shut_mark, t_shut_mix, t_mark_var, t_mark_pair, t_mark_box, t_mark_half, t_mark_shut, t_mark_mix, t_mix_var, t_mix_pair, t_mix_box, t_mix_half, t_mix_shut, t_mix_mark, e_n2, e_n3, Int.reduceNeg, Bool.or_true, i_str_S, i_str_T, i_str_L, i_str_I, i_int_S, i_int_T, i_int_L, i_int_I, i_bool_S, i_bool_T, i_bool_L, i_bool_I, i_list_S, i_list_T, i_list_L, i_list_I, i_tuple_S, i_tuple_T, i_tuple_L, i_tuple_I, i_dict_S, i_dict_T, i_dict_L, i_dict_I, e_ty_int, e_ty_bool, e_ty_list, e_ty_dict, e_isi2, e_pl3, e_pl4, e_eqB, e_depB, e_ok3, e_r2, e_r3, e_r0, e_for, e_i1, e_p2, e_n0, e_n4, e_ln0, e_ln1, Int.reduceEq, Int.reduceLT, Int.reduceLE, decide_false, Option.isSome_some, Option.isSome_none, Bool.or_self, Bool.true_or, ↓reduceIte, k_rb]
    refine sp_behind (p := p ++ [91] ++ b.wd) (q := Tm.key a.wd a ++ q) (by rw [hT]; simp) (by simp; omega) ?_
    rcases shape a with ⟨s, rfl⟩ | ⟨tag, l, e1, e2, e3⟩
    · obtain ⟨c, w, hs, hc⟩ := isNm.cons h.1
      simp only [Tm.key, Tm.wd] at hT k
      have b2 := nobr (T := T) (p := p ++ [91] ++ b.wd ++ [93]) (i := i + 1 + (b.wd.length : Int) + 1) (c := c) (x := 60) (r := w ++ q) (by rw [hT, hs]; simp) (by simp; omega) (by omega)
      have n1 : (([93] : List Nat).length : Int) = 1 := rfl
      rw [n1]
      simp only [e_seq, e_next, e_ret, e_retN, e_if, e_asg, e_own, e_drop, e_c, e_var0, e_varS, e_op, e_test, e_and, e_or, e_not, e_andV, e_orV, e_notV, e_ifE, e_chain, e_nil, e_cons, e_tup, e_lst, e_cb, e_call, e_sl, e_part, e_noPart, e_items, e_rng1, e_lc, e_yes, e_fn, e_rho1, e_rho2, e_rho3, e_rho4, e_isi, e_ints, e_CT, e_lenS, e_lenT, e_lenL, e_addI, e_addS, e_addL, e_int, e_intB, e_ixT, e_ixL, e_ixS, e_at0, e_at1, e_at2, e_slT, e_slL, e_slS, e_tail, e_eqS, e_eqI, e_depS, e_depI, e_isiS, e_isiT, e_isiTT, e_isiTS, e_lcN, e_lcC, e_name, e_repl, e_inT, e_inL, e_inS, e_inTab, e_ixTab, e_is, e_isNot, e_eqv, e_nev, e_starts, D.bl.injEq, D.int.injEq, D.str.injEq, D.tup.injEq, exists_eq_left', exists_eq_left, true_and, and_true, and_self, if_true, if_false, ite_true, ite_false, Bool.false_eq_true, Bool.not_true, Bool.not_false, eq_self, List.set_cons_zero, List.set_cons_succ, List.getElem?_cons_zero, List.getElem?_cons_succ, List.length_cons, List.length_nil, List.replicate_zero, List.map_cons, List.map_nil, List.nil_append, List.cons_append, Nat.reduceAdd, Nat.zero_add, noOwn, wipeR, List.all_cons, List.all_nil, List.any_cons, List.any_nil, Bool.and_true, Bool.or_false, Bool.false_or, Bool.and_self, Bool.xor_false, Bool.false_xor, Bool.true_xor, decide_true, Option.some.injEq, e_itT, e_itL, e_itS, e_pl1, e_pl2, e_ty1, e_ty2, e_ok1, e_ok2, e_min, e_one, e_two, e_three, e_nnT, e_nnS, e_fl1, e_fl2, e_fl3, e_starts, e_st2, t_var_pair, t_var_box, t_var_half, t_var_shut, t_var_mark, t_var_mix, t_pair_var, t_pair_box, t_pair_half, t_pair_shut, t_pair_mark, t_pair_mix, t_box_var, t_box_pair, t_box_half, t_box_shut, t_box_mark, t_box_mix, t_half_var, t_half_pair, t_half_box, t_half_shut, t_half_mark, t_half_mix, t_shut_var, t_shut_pair, t_shut_box, t_shut_half, t_shut_mark, t_shut_mix, t_mark_var, t_mark_pair, t_mark_box, t_mark_half, t_mark_shut, t_mark_mix, t_mix_var, t_mix_pair, t_mix_box, t_mix_half, t_mix_shut, t_mix_mark, e_n2, e_n3, Int.reduceNeg, Bool.or_true, i_str_S, i_str_T, i_str_L, i_str_I, i_int_S, i_int_T, i_int_L, i_int_I, i_bool_S, i_bool_T, i_bool_L, i_bool_I, i_list_S, i_list_T, i_list_L, i_list_I, i_tuple_S, i_tuple_T, i_tuple_L, i_tuple_I, i_dict_S, i_dict_T, i_dict_L, i_dict_I, e_ty_int, e_ty_bool, e_ty_list, e_ty_dict, e_isi2, e_pl3, e_pl4, e_eqB, e_depB, e_ok3, e_r2, e_r3, e_r0, e_for, e_i1, e_p2, e_n0, e_n4, e_ln0, e_ln1, Int.reduceEq, Int.reduceLT, Int.reduceLE, decide_false, Option.isSome_some, Option.isSome_none, Bool.or_self, Bool.true_or, ↓reduceIte, k_lt, b2]
      refine sp_leaf_at (p := p ++ [91] ++ b.wd ++ [93]) (w := s) (q := q) (by rw [hT]; simp) (by simp; omega) h.1 hq.no ?_
      simp only [e_seq, e_next, e_ret, e_retN, e_if, e_asg, e_own, e_drop, e_c, e_var0, e_varS, e_op, e_test, e_and, e_or, e_not, e_andV, e_orV, e_notV, e_ifE, e_chain, e_nil, e_cons, e_tup, e_lst, e_cb, e_call, e_sl, e_part, e_noPart, e_items, e_rng1, e_lc, e_yes, e_fn, e_rho1, e_rho2, e_rho3, e_rho4, e_isi, e_ints, e_CT, e_lenS, e_lenT, e_lenL, e_addI, e_addS, e_addL, e_int, e_intB, e_ixT, e_ixL, e_ixS, e_at0, e_at1, e_at2, e_slT, e_slL, e_slS, e_tail, e_eqS, e_eqI, e_depS, e_depI, e_isiS, e_isiT, e_isiTT, e_isiTS, e_lcN, e_lcC, e_name, e_repl, e_inT, e_inL, e_inS, e_inTab, e_ixTab, e_is, e_isNot, e_eqv, e_nev, e_starts, D.bl.injEq, D.int.injEq, D.str.injEq, D.tup.injEq, exists_eq_left', exists_eq_left, true_and, and_true, and_self, if_true, if_false, ite_true, ite_false, Bool.false_eq_true, Bool.not_true, Bool.not_false, eq_self, List.set_cons_zero, List.set_cons_succ, List.getElem?_cons_zero, List.getElem?_cons_succ, List.length_cons, List.length_nil, List.replicate_zero, List.map_cons, List.map_nil, List.nil_append, List.cons_append, Nat.reduceAdd, Nat.zero_add, noOwn, wipeR, List.all_cons, List.all_nil, List.any_cons, List.any_nil, Bool.and_true, Bool.or_false, Bool.false_or, Bool.and_self, Bool.xor_false, Bool.false_xor, Bool.true_xor, decide_true, Option.some.injEq, e_itT, e_itL, e_itS, e_pl1, e_pl2, e_ty1, e_ty2, e_ok1, e_ok2, e_min, e_one, e_two, e_three, e_nnT, e_nnS, e_fl1, e_fl2, e_fl3, e_starts, e_st2, t_var_pair, t_var_box, t_var_half, t_var_shut, t_var_mark, t_var_mix, t_pair_var, t_pair_box, t_pair_half, t_pair_shut, t_pair_mark, t_pair_mix, t_box_var, t_box_pair, t_box_half, t_box_shut, t_box_mark, t_box_mix, t_half_var, t_half_pair, t_half_box, t_half_shut, t_half_mark, t_half_mix, t_shut_var, t_shut_pair, t_shut_box, t_shut_half, t_shut_mark, t_shut_mix, t_mark_var, t_mark_pair, t_mark_box, t_mark_half, t_mark_shut, t_mark_mix, t_mix_var, t_mix_pair, t_mix_box, t_mix_half, t_mix_shut, t_mix_mark, e_n2, e_n3, Int.reduceNeg, Bool.or_true, i_str_S, i_str_T, i_str_L, i_str_I, i_int_S, i_int_T, i_int_L, i_int_I, i_bool_S, i_bool_T, i_bool_L, i_bool_I, i_list_S, i_list_T, i_list_L, i_list_I, i_tuple_S, i_tuple_T, i_tuple_L, i_tuple_I, i_dict_S, i_dict_T, i_dict_L, i_dict_I, e_ty_int, e_ty_bool, e_ty_list, e_ty_dict, e_isi2, e_pl3, e_pl4, e_eqB, e_depB, e_ok3, e_r2, e_r3, e_r0, e_for, e_i1, e_p2, e_n0, e_n4, e_ln0, e_ln1, Int.reduceEq, Int.reduceLT, Int.reduceLE, decide_false, Option.isSome_some, Option.isSome_none, Bool.or_self, Bool.true_or, ↓reduceIte]
      have e : i + (([91] ++ b.wd ++ [93] ++ s).length : Int) = i + 1 + (b.wd.length : Int) + 1 + (s.length : Int) := by simp; omega
      rw [e] at k
      exact k
    · rw [e3] at hT k
      have b2 := isbr (T := T) (p := p ++ [91] ++ b.wd ++ [93]) (i := i + 1 + (b.wd.length : Int) + 1) (c := 60) (r := a.wd ++ [62] ++ q) (by rw [hT]; simp) (by simp; omega)
      have n1 : (([93] : List Nat).length : Int) = 1 := rfl
      rw [n1]
      simp only [e_seq, e_next, e_ret, e_retN, e_if, e_asg, e_own, e_drop, e_c, e_var0, e_varS, e_op, e_test, e_and, e_or, e_not, e_andV, e_orV, e_notV, e_ifE, e_chain, e_nil, e_cons, e_tup, e_lst, e_cb, e_call, e_sl, e_part, e_noPart, e_items, e_rng1, e_lc, e_yes, e_fn, e_rho1, e_rho2, e_rho3, e_rho4, e_isi, e_ints, e_CT, e_lenS, e_lenT, e_lenL, e_addI, e_addS, e_addL, e_int, e_intB, e_ixT, e_ixL, e_ixS, e_at0, e_at1, e_at2, e_slT, e_slL, e_slS, e_tail, e_eqS, e_eqI, e_depS, e_depI, e_isiS, e_isiT, e_isiTT, e_isiTS, e_lcN, e_lcC, e_name, e_repl, e_inT, e_inL, e_inS, e_inTab, e_ixTab, e_is, e_isNot, e_eqv, e_nev, e_starts, D.bl.injEq, D.int.injEq, D.str.injEq, D.tup.injEq, exists_eq_left', exists_eq_left, true_and, and_true, and_self, if_true, if_false, ite_true, ite_false, Bool.false_eq_true, Bool.not_true, Bool.not_false, eq_self, List.set_cons_zero, List.set_cons_succ, List.getElem?_cons_zero, List.getElem?_cons_succ, List.length_cons, List.length_nil, List.replicate_zero, List.map_cons, List.map_nil, List.nil_append, List.cons_append, Nat.reduceAdd, Nat.zero_add, noOwn, wipeR, List.all_cons, List.all_nil, List.any_cons, List.any_nil, Bool.and_true, Bool.or_false, Bool.false_or, Bool.and_self, Bool.xor_false, Bool.false_xor, Bool.true_xor, decide_true, Option.some.injEq, e_itT, e_itL, e_itS, e_pl1, e_pl2, e_ty1, e_ty2, e_ok1, e_ok2, e_min, e_one, e_two, e_three, e_nnT, e_nnS, e_fl1, e_fl2, e_fl3, e_starts, e_st2, t_var_pair, t_var_box, t_var_half, t_var_shut, t_var_mark, t_var_mix, t_pair_var, t_pair_box, t_pair_half, t_pair_shut, t_pair_mark, t_pair_mix, t_box_var, t_box_pair, t_box_half, t_box_shut, t_box_mark, t_box_mix, t_half_var, t_half_pair, t_half_box, t_half_shut, t_half_mark, t_half_mix, t_shut_var, t_shut_pair, t_shut_box, t_shut_half, t_shut_mark, t_shut_mix, t_mark_var, t_mark_pair, t_mark_box, t_mark_half, t_mark_shut, t_mark_mix, t_mix_var, t_mix_pair, t_mix_box, t_mix_half, t_mix_shut, t_mix_mark, e_n2, e_n3, Int.reduceNeg, Bool.or_true, i_str_S, i_str_T, i_str_L, i_str_I, i_int_S, i_int_T, i_int_L, i_int_I, i_bool_S, i_bool_T, i_bool_L, i_bool_I, i_list_S, i_list_T, i_list_L, i_list_I, i_tuple_S, i_tuple_T, i_tuple_L, i_tuple_I, i_dict_S, i_dict_T, i_dict_L, i_dict_I, e_ty_int, e_ty_bool, e_ty_list, e_ty_dict, e_isi2, e_pl3, e_pl4, e_eqB, e_depB, e_ok3, e_r2, e_r3, e_r0, e_for, e_i1, e_p2, e_n0, e_n4, e_ln0, e_ln1, Int.reduceEq, Int.reduceLT, Int.reduceLE, decide_false, Option.isSome_some, Option.isSome_none, Bool.or_self, Bool.true_or, ↓reduceIte, k_lt, b2]
      refine sp_term_at a n T (p ++ [91] ++ b.wd ++ [93] ++ [60]) ([62] ++ q) _ _ _ _ (by rw [hT]; simp) (by simp; omega) h.1 (by omega) (by omega) fol_c ?_
      simp only [e_seq, e_next, e_ret, e_retN, e_if, e_asg, e_own, e_drop, e_c, e_var0, e_varS, e_op, e_test, e_and, e_or, e_not, e_andV, e_orV, e_notV, e_ifE, e_chain, e_nil, e_cons, e_tup, e_lst, e_cb, e_call, e_sl, e_part, e_noPart, e_items, e_rng1, e_lc, e_yes, e_fn, e_rho1, e_rho2, e_rho3, e_rho4, e_isi, e_ints, e_CT, e_lenS, e_lenT, e_lenL, e_addI, e_addS, e_addL, e_int, e_intB, e_ixT, e_ixL, e_ixS, e_at0, e_at1, e_at2, e_slT, e_slL, e_slS, e_tail, e_eqS, e_eqI, e_depS, e_depI, e_isiS, e_isiT, e_isiTT, e_isiTS, e_lcN, e_lcC, e_name, e_repl, e_inT, e_inL, e_inS, e_inTab, e_ixTab, e_is, e_isNot, e_eqv, e_nev, e_starts, D.bl.injEq, D.int.injEq, D.str.injEq, D.tup.injEq, exists_eq_left', exists_eq_left, true_and, and_true, and_self, if_true, if_false, ite_true, ite_false, Bool.false_eq_true, Bool.not_true, Bool.not_false, eq_self, List.set_cons_zero, List.set_cons_succ, List.getElem?_cons_zero, List.getElem?_cons_succ, List.length_cons, List.length_nil, List.replicate_zero, List.map_cons, List.map_nil, List.nil_append, List.cons_append, Nat.reduceAdd, Nat.zero_add, noOwn, wipeR, List.all_cons, List.all_nil, List.any_cons, List.any_nil, Bool.and_true, Bool.or_false, Bool.false_or, Bool.and_self, Bool.xor_false, Bool.false_xor, Bool.true_xor, decide_true, Option.some.injEq, e_itT, e_itL, e_itS, e_pl1, e_pl2, e_ty1, e_ty2, e_ok1, e_ok2, e_min, e_one, e_two, e_three, e_nnT, e_nnS, e_fl1, e_fl2, e_fl3, e_starts, e_st2, t_var_pair, t_var_box, t_var_half, t_var_shut, t_var_mark, t_var_mix, t_pair_var, t_pair_box, t_pair_half, t_pair_shut, t_pair_mark, t_pair_mix, t_box_var, t_box_pair, t_box_half, t_box_shut, t_box_mark, t_box_mix, t_half_var, t_half_pair, t_half_box, t_half_shut, t_half_mark, t_half_mix, t_shut_var, t_shut_pair, t_shut_box, t_shut_half, t_shut_mark, t_shut_mix, t_mark_var, t_mark_pair, t_mark_box, t_mark_half, t_mark_shut, t_mark_mix, t_mix_var, t_mix_pair, t_mix_box, t_mix_half, t_mix_shut, t_mix_mark, e_n2, e_n3, Int.reduceNeg, Bool.or_true, i_str_S, i_str_T, i_str_L, i_str_I, i_int_S, i_int_T, i_int_L, i_int_I, i_bool_S, i_bool_T, i_bool_L, i_bool_I, i_list_S, i_list_T, i_list_L, i_list_I, i_tuple_S, i_tuple_T, i_tuple_L, i_tuple_I, i_dict_S, i_dict_T, i_dict_L, i_dict_I, e_ty_int, e_ty_bool, e_ty_list, e_ty_dict, e_isi2, e_pl3, e_pl4, e_eqB, e_depB, e_ok3, e_r2, e_r3, e_r0, e_for, e_i1, e_p2, e_n0, e_n4, e_ln0, e_ln1, Int.reduceEq, Int.reduceLT, Int.reduceLE, decide_false, Option.isSome_some, Option.isSome_none, Bool.or_self, Bool.true_or, ↓reduceIte, k_gt]
      refine sp_behind (p := p ++ [91] ++ b.wd ++ [93] ++ [60] ++ a.wd) (q := q) (by rw [hT]; simp) (by simp; omega) ?_
      simp only [e_seq, e_next, e_ret, e_retN, e_if, e_asg, e_own, e_drop, e_c, e_var0, e_varS, e_op, e_test, e_and, e_or, e_not, e_andV, e_orV, e_notV, e_ifE, e_chain, e_nil, e_cons, e_tup, e_lst, e_cb, e_call, e_sl, e_part, e_noPart, e_items, e_rng1, e_lc, e_yes, e_fn, e_rho1, e_rho2, e_rho3, e_rho4, e_isi, e_ints, e_CT, e_lenS, e_lenT, e_lenL, e_addI, e_addS, e_addL, e_int, e_intB, e_ixT, e_ixL, e_ixS, e_at0, e_at1, e_at2, e_slT, e_slL, e_slS, e_tail, e_eqS, e_eqI, e_depS, e_depI, e_isiS, e_isiT, e_isiTT, e_isiTS, e_lcN, e_lcC, e_name, e_repl, e_inT, e_inL, e_inS, e_inTab, e_ixTab, e_is, e_isNot, e_eqv, e_nev, e_starts, D.bl.injEq, D.int.injEq, D.str.injEq, D.tup.injEq, exists_eq_left', exists_eq_left, true_and, and_true, and_self, if_true, if_false, ite_true, ite_false, Bool.false_eq_true, Bool.not_true, Bool.not_false, eq_self, List.set_cons_zero, List.set_cons_succ, List.getElem?_cons_zero, List.getElem?_cons_succ, List.length_cons, List.length_nil, List.replicate_zero, List.map_cons, List.map_nil, List.nil_append, List.cons_append, Nat.reduceAdd, Nat.zero_add, noOwn, wipeR, List.all_cons, List.all_nil, List.any_cons, List.any_nil, Bool.and_true, Bool.or_false, Bool.false_or, Bool.and_self, Bool.xor_false, Bool.false_xor, Bool.true_xor, decide_true, Option.some.injEq, e_itT, e_itL, e_itS, e_pl1, e_pl2, e_ty1, e_ty2, e_ok1, e_ok2, e_min, e_one, e_two, e_three, e_nnT, e_nnS, e_fl1, e_fl2, e_fl3, e_starts, e_st2, t_var_pair, t_var_box, t_var_half, t_var_shut, t_var_mark, t_var_mix, t_pair_var, t_pair_box, t_pair_half, t_pair_shut, t_pair_mark, t_pair_mix, t_box_var, t_box_pair, t_box_half, t_box_shut, t_box_mark, t_box_mix, t_half_var, t_half_pair, t_half_box, t_half_shut, t_half_mark, t_half_mix, t_shut_var, t_shut_pair, t_shut_box, t_shut_half, t_shut_mark, t_shut_mix, t_mark_var, t_mark_pair, t_mark_box, t_mark_half, t_mark_shut, t_mark_mix, t_mix_var, t_mix_pair, t_mix_box, t_mix_half, t_mix_shut, t_mix_mark, e_n2, e_n3, Int.reduceNeg, Bool.or_true, i_str_S, i_str_T, i_str_L, i_str_I, i_int_S, i_int_T, i_int_L, i_int_I, i_bool_S, i_bool_T, i_bool_L, i_bool_I, i_list_S, i_list_T, i_list_L, i_list_I, i_tuple_S, i_tuple_T, i_tuple_L, i_tuple_I, i_dict_S, i_dict_T, i_dict_L, i_dict_I, e_ty_int, e_ty_bool, e_ty_list, e_ty_dict, e_isi2, e_pl3, e_pl4, e_eqB, e_depB, e_ok3, e_r2, e_r3, e_r0, e_for, e_i1, e_p2, e_n0, e_n4, e_ln0, e_ln1, Int.reduceEq, Int.reduceLT, Int.reduceLE, decide_false, Option.isSome_some, Option.isSome_none, Bool.or_self, Bool.true_or, ↓reduceIte]
      have e : i + (([91] ++ b.wd ++ [93] ++ ([60] ++ a.wd ++ [62])).length : Int) = i + 1 + (b.wd.length : Int) + 1 + 1 + (a.wd.length : Int) + ((0 + 1 : Nat) : Int) := by simp; omega
      rw [e] at k
      exact k
  | .half s, n + 1, T, p, q, i, r, Xd, Q, hT, hi, h, hr, hn, hq, k => by
    simp only [Tm.wd, Tm.depth, Tm.d] at hT hr hn k
    have e0 : decide (r = 0) = false := decide_eq_false (by omega)
    have hT2 : T = p ++ 104 :: ([97, 108, 102, 32] ++ s ++ q) := by rw [hT]; simp
    have b1 := nobr (x := 40) hT2 hi (by omega)
    have b2 := nobr (x := 91) hT2 hi (by omega)
    have b3 := nobr (x := 123) hT2 hi (by omega)
    simp only [e_seq, e_next, e_ret, e_retN, e_if, e_asg, e_own, e_drop, e_c, e_var0, e_varS, e_op, e_test, e_and, e_or, e_not, e_andV, e_orV, e_notV, e_ifE, e_chain, e_nil, e_cons, e_tup, e_lst, e_cb, e_call, e_sl, e_part, e_noPart, e_items, e_rng1, e_lc, e_yes, e_fn, e_rho1, e_rho2, e_rho3, e_rho4, e_isi, e_ints, e_CT, e_lenS, e_lenT, e_lenL, e_addI, e_addS, e_addL, e_int, e_intB, e_ixT, e_ixL, e_ixS, e_at0, e_at1, e_at2, e_slT, e_slL, e_slS, e_tail, e_eqS, e_eqI, e_depS, e_depI, e_isiS, e_isiT, e_isiTT, e_isiTS, e_lcN, e_lcC, e_name, e_repl, e_inT, e_inL, e_inS, e_inTab, e_ixTab, e_is, e_isNot, e_eqv, e_nev, e_starts, D.bl.injEq, D.int.injEq, D.str.injEq, D.tup.injEq, exists_eq_left', exists_eq_left, true_and, and_true, and_self, if_true, if_false, ite_true, ite_false, Bool.false_eq_true, Bool.not_true, Bool.not_false, eq_self, List.set_cons_zero, List.set_cons_succ, List.getElem?_cons_zero, List.getElem?_cons_succ, List.length_cons, List.length_nil, List.replicate_zero, List.map_cons, List.map_nil, List.nil_append, List.cons_append, Nat.reduceAdd, Nat.zero_add, noOwn, wipeR, List.all_cons, List.all_nil, List.any_cons, List.any_nil, Bool.and_true, Bool.or_false, Bool.false_or, Bool.and_self, Bool.xor_false, Bool.false_xor, Bool.true_xor, decide_true, Option.some.injEq, e_itT, e_itL, e_itS, e_pl1, e_pl2, e_ty1, e_ty2, e_ok1, e_ok2, e_min, e_one, e_two, e_three, e_nnT, e_nnS, e_fl1, e_fl2, e_fl3, e_starts, e_st2, t_var_pair, t_var_box, t_var_half, t_var_shut, t_var_mark, t_var_mix, t_pair_var, t_pair_box, t_pair_half, t_pair_shut, t_pair_mark, t_pair_mix, t_box_var, t_box_pair, t_box_half, t_box_shut, t_box_mark, t_box_mix, t_half_var, t_half_pair, t_half_box, t_half_shut, t_half_mark, t_half_mix, t_shut_var, t_shut_pair, t_shut_box, t_shut_half, t_shut_mark, t_shut_mix, t_mark_var, t_mark_pair, t_mark_box, t_mark_half, t_mark_shut, t_mark_mix, t_mix_var, t_mix_pair, t_mix_box, t_mix_half, t_mix_shut, t_mix_mark, e_n2, e_n3, Int.reduceNeg, Bool.or_true, i_str_S, i_str_T, i_str_L, i_str_I, i_int_S, i_int_T, i_int_L, i_int_I, i_bool_S, i_bool_T, i_bool_L, i_bool_I, i_list_S, i_list_T, i_list_L, i_list_I, i_tuple_S, i_tuple_T, i_tuple_L, i_tuple_I, i_dict_S, i_dict_T, i_dict_L, i_dict_I, e_ty_int, e_ty_bool, e_ty_list, e_ty_dict, e_isi2, e_pl3, e_pl4, e_eqB, e_depB, e_ok3, e_r2, e_r3, e_r0, e_for, e_i1, e_p2, e_n0, e_n4, e_ln0, e_ln1, Int.reduceEq, Int.reduceLT, Int.reduceLE, decide_false, Option.isSome_some, Option.isSome_none, Bool.or_self, Bool.true_or, ↓reduceIte, m_term_at, e0, k_lp, k_lb, k_lc, b1, b2, b3, m_word_at]
    obtain ⟨c, w, hs, hc⟩ := isNm.cons h
    refine sp_word_end (p := p) (w := [104, 97, 108, 102]) (q := [32] ++ s ++ q) (by rw [hT]; simp) hi (by simp) (by rintro c r e; cases e; omega) ?_
    have e3 : L2.cutS (St T) (some i) (some (i + (([104, 97, 108, 102] : List Nat).length : Int))) = St [104, 97, 108, 102] := cut_is (p := p) (q := [32] ++ s ++ q) (by rw [hT]; simp) hi rfl
    have n1 : (([104, 97, 108, 102] : List Nat).length : Int) = 4 := rfl
    rw [n1] at e3 ⊢
    have e4 : decide (St [104, 97, 108, 102] = Str.ofString "mix") = false := by rw [← k_halfw]; exact t_half_mix
    have e5 : decide (St [104, 97, 108, 102] = Str.ofString "half") = true := by rw [k_halfw]; exact decide_eq_true rfl
    have e6 := isbr (T := T) (p := p ++ [104, 97, 108, 102]) (i := i + 4) (c := 32) (r := s ++ q) (by rw [hT]; simp) (by simp; omega)
    have e7 : Txt.startswith3 (St T) (St [32, 38, 32]) (i + 4) = false := by
      rw [sw (p := p ++ [104, 97, 108, 102]) (r := 32 :: c :: (w ++ q)) (by rw [hT, hs]; simp) (by simp; omega)]
      have : (38 : Nat) ≠ c := by omega
      simp [List.isPrefixOf, this]
    simp only [e_seq, e_next, e_ret, e_retN, e_if, e_asg, e_own, e_drop, e_c, e_var0, e_varS, e_op, e_test, e_and, e_or, e_not, e_andV, e_orV, e_notV, e_ifE, e_chain, e_nil, e_cons, e_tup, e_lst, e_cb, e_call, e_sl, e_part, e_noPart, e_items, e_rng1, e_lc, e_yes, e_fn, e_rho1, e_rho2, e_rho3, e_rho4, e_isi, e_ints, e_CT, e_lenS, e_lenT, e_lenL, e_addI, e_addS, e_addL, e_int, e_intB, e_ixT, e_ixL, e_ixS, e_at0, e_at1, e_at2, e_slT, e_slL, e_slS, e_tail, e_eqS, e_eqI, e_depS, e_depI, e_isiS, e_isiT, e_isiTT, e_isiTS, e_lcN, e_lcC, e_name, e_repl, e_inT, e_inL, e_inS, e_inTab, e_ixTab, e_is, e_isNot, e_eqv, e_nev, e_starts, D.bl.injEq, D.int.injEq, D.str.injEq, D.tup.injEq, exists_eq_left', exists_eq_left, true_and, and_true, and_self, if_true, if_false, ite_true, ite_false, Bool.false_eq_true, Bool.not_true, Bool.not_false, eq_self, List.set_cons_zero, List.set_cons_succ, List.getElem?_cons_zero, List.getElem?_cons_succ, List.length_cons, List.length_nil, List.replicate_zero, List.map_cons, List.map_nil, List.nil_append, List.cons_append, Nat.reduceAdd, Nat.zero_add, noOwn, wipeR, List.all_cons, List.all_nil, List.any_cons, List.any_nil, Bool.and_true, Bool.or_false, Bool.false_or, Bool.and_self, Bool.xor_false, Bool.false_xor, Bool.true_xor, decide_true, Option.some.injEq, e_itT, e_itL, e_itS, e_pl1, e_pl2, e_ty1, e_ty2, e_ok1, e_ok2, e_min, e_one, e_two, e_three, e_nnT, e_nnS, e_fl1, e_fl2, e_fl3, e_starts, e_st2, t_var_pair, t_var_box, t_var_half, t_var_shut, t_var_mark, t_var_mix, t_pair_var, t_pair_box, t_pair_half, t_pair_shut, t_pair_mark, t_pair_mix, t_box_var, t_box_pair, t_box_half, t_box_shut, t_box_mark, t_box_mix, t_half_var, t_half_pair, t_half_box, t_half_shut, t_half_mark, t_half_mix, t_shut_var, t_shut_pair, t_shut_box, t_shut_half, t_shut_mark, t_shut_mix, t_mark_var, t_mark_pair, t_mark_box, t_mark_half, t_mark_shut, t_mark_mix, t_mix_var, t_mix_pair, t_mix_box, t_mix_half, t_mix_shut, t_mix_mark, e_n2, e_n3, Int.reduceNeg, Bool.or_true, i_str_S, i_str_T, i_str_L, i_str_I, i_int_S, i_int_T, i_int_L, i_int_I, i_bool_S, i_bool_T, i_bool_L, i_bool_I, i_list_S, i_list_T, i_list_L, i_list_I, i_tuple_S, i_tuple_T, i_tuple_L, i_tuple_I, i_dict_S, i_dict_T, i_dict_L, i_dict_I, e_ty_int, e_ty_bool, e_ty_list, e_ty_dict, e_isi2, e_pl3, e_pl4, e_eqB, e_depB, e_ok3, e_r2, e_r3, e_r0, e_for, e_i1, e_p2, e_n0, e_n4, e_ln0, e_ln1, Int.reduceEq, Int.reduceLT, Int.reduceLE, decide_false, Option.isSome_some, Option.isSome_none, Bool.or_self, Bool.true_or, ↓reduceIte, e3, e4, e5, k_bl, k_and, e6, e7]
    refine sp_leaf_at (p := p ++ [104, 97, 108, 102, 32]) (w := s) (q := q) (by rw [hT]; simp) (by simp; omega) h hq.no ?_
    simp only [e_seq, e_next, e_ret, e_retN, e_if, e_asg, e_own, e_drop, e_c, e_var0, e_varS, e_op, e_test, e_and, e_or, e_not, e_andV, e_orV, e_notV, e_ifE, e_chain, e_nil, e_cons, e_tup, e_lst, e_cb, e_call, e_sl, e_part, e_noPart, e_items, e_rng1, e_lc, e_yes, e_fn, e_rho1, e_rho2, e_rho3, e_rho4, e_isi, e_ints, e_CT, e_lenS, e_lenT, e_lenL, e_addI, e_addS, e_addL, e_int, e_intB, e_ixT, e_ixL, e_ixS, e_at0, e_at1, e_at2, e_slT, e_slL, e_slS, e_tail, e_eqS, e_eqI, e_depS, e_depI, e_isiS, e_isiT, e_isiTT, e_isiTS, e_lcN, e_lcC, e_name, e_repl, e_inT, e_inL, e_inS, e_inTab, e_ixTab, e_is, e_isNot, e_eqv, e_nev, e_starts, D.bl.injEq, D.int.injEq, D.str.injEq, D.tup.injEq, exists_eq_left', exists_eq_left, true_and, and_true, and_self, if_true, if_false, ite_true, ite_false, Bool.false_eq_true, Bool.not_true, Bool.not_false, eq_self, List.set_cons_zero, List.set_cons_succ, List.getElem?_cons_zero, List.getElem?_cons_succ, List.length_cons, List.length_nil, List.replicate_zero, List.map_cons, List.map_nil, List.nil_append, List.cons_append, Nat.reduceAdd, Nat.zero_add, noOwn, wipeR, List.all_cons, List.all_nil, List.any_cons, List.any_nil, Bool.and_true, Bool.or_false, Bool.false_or, Bool.and_self, Bool.xor_false, Bool.false_xor, Bool.true_xor, decide_true, Option.some.injEq, e_itT, e_itL, e_itS, e_pl1, e_pl2, e_ty1, e_ty2, e_ok1, e_ok2, e_min, e_one, e_two, e_three, e_nnT, e_nnS, e_fl1, e_fl2, e_fl3, e_starts, e_st2, t_var_pair, t_var_box, t_var_half, t_var_shut, t_var_mark, t_var_mix, t_pair_var, t_pair_box, t_pair_half, t_pair_shut, t_pair_mark, t_pair_mix, t_box_var, t_box_pair, t_box_half, t_box_shut, t_box_mark, t_box_mix, t_half_var, t_half_pair, t_half_box, t_half_shut, t_half_mark, t_half_mix, t_shut_var, t_shut_pair, t_shut_box, t_shut_half, t_shut_mark, t_shut_mix, t_mark_var, t_mark_pair, t_mark_box, t_mark_half, t_mark_shut, t_mark_mix, t_mix_var, t_mix_pair, t_mix_box, t_mix_half, t_mix_shut, t_mix_mark, e_n2, e_n3, Int.reduceNeg, Bool.or_true, i_str_S, i_str_T, i_str_L, i_str_I, i_int_S, i_int_T, i_int_L, i_int_I, i_bool_S, i_bool_T, i_bool_L, i_bool_I, i_list_S, i_list_T, i_list_L, i_list_I, i_tuple_S, i_tuple_T, i_tuple_L, i_tuple_I, i_dict_S, i_dict_T, i_dict_L, i_dict_I, e_ty_int, e_ty_bool, e_ty_list, e_ty_dict, e_isi2, e_pl3, e_pl4, e_eqB, e_depB, e_ok3, e_r2, e_r3, e_r0, e_for, e_i1, e_p2, e_n0, e_n4, e_ln0, e_ln1, Int.reduceEq, Int.reduceLT, Int.reduceLE, decide_false, Option.isSome_some, Option.isSome_none, Bool.or_self, Bool.true_or, ↓reduceIte]
    have e : i + (([104, 97, 108, 102, 32] ++ s).length : Int) = i + 4 + 1 + (s.length : Int) := by simp; omega
    rw [e] at k
    exact k
  | .shut s a, n + 1, T, p, q, i, r, Xd, Q, hT, hi, h, hr, hn, hq, k => by
    simp only [Tm.wd, Tm.depth, Tm.d] at hT hr hn k
    have e0 : decide (r = 0) = false := decide_eq_false (by omega)
    have hT2 : T = p ++ 123 :: (a.wd ++ [125] ++ s ++ q) := by rw [hT]; simp
    have b1 := nobr (x := 40) hT2 hi (by omega)
    have b2 := nobr (x := 91) hT2 hi (by omega)
    have b3 := isbr hT2 hi
    simp only [e_seq, e_next, e_ret, e_retN, e_if, e_asg, e_own, e_drop, e_c, e_var0, e_varS, e_op, e_test, e_and, e_or, e_not, e_andV, e_orV, e_notV, e_ifE, e_chain, e_nil, e_cons, e_tup, e_lst, e_cb, e_call, e_sl, e_part, e_noPart, e_items, e_rng1, e_lc, e_yes, e_fn, e_rho1, e_rho2, e_rho3, e_rho4, e_isi, e_ints, e_CT, e_lenS, e_lenT, e_lenL, e_addI, e_addS, e_addL, e_int, e_intB, e_ixT, e_ixL, e_ixS, e_at0, e_at1, e_at2, e_slT, e_slL, e_slS, e_tail, e_eqS, e_eqI, e_depS, e_depI, e_isiS, e_isiT, e_isiTT, e_isiTS, e_lcN, e_lcC, e_name, e_repl, e_inT, e_inL, e_inS, e_inTab, e_ixTab, e_is, e_isNot, e_eqv, e_nev, e_starts, D.bl.injEq, D.int.injEq, D.str.injEq, D.tup.injEq, exists_eq_left', exists_eq_left, true_and, and_true, and_self, if_true, if_false, ite_true, ite_false, Bool.false_eq_true, Bool.not_true, Bool.not_false, eq_self, List.set_cons_zero, List.set_cons_succ, List.getElem?_cons_zero, List.getElem?_cons_succ, List.length_cons, List.length_nil, List.replicate_zero, List.map_cons, List.map_nil, List.nil_append, List.cons_append, Nat.reduceAdd, Nat.zero_add, noOwn, wipeR, List.all_cons, List.all_nil, List.any_cons, List.any_nil, Bool.and_true, Bool.or_false, Bool.false_or, Bool.and_self, Bool.xor_false, Bool.false_xor, Bool.true_xor, decide_true, Option.some.injEq, e_itT, e_itL, e_itS, e_pl1, e_pl2, e_ty1, e_ty2, e_ok1, e_ok2, e_min, e_one, e_two, e_three, e_nnT, e_nnS, e_fl1, e_fl2, e_fl3, e_starts, e_st2, t_var_pair, t_var_box, t_var_half, t_var_shut, t_var_mark, t_var_mix, t_pair_var, t_pair_box, t_pair_half, t_pair_shut, t_pair_mark, t_pair_mix, t_box_var, t_box_pair, t_box_half, t_box_shut, t_box_mark, t_box_mix, t_half_var, t_half_pair, t_half_box, t_half_shut, t_half_mark, t_half_mix, t_shut_var, t_shut_pair, t_shut_box, t_shut_half, t_shut_mark, t_shut_mix, t_mark_var, t_mark_pair, t_mark_box, t_mark_half, t_mark_shut, t_mark_mix, t_mix_var, t_mix_pair, t_mix_box, t_mix_half, t_mix_shut, t_mix_mark, e_n2, e_n3, Int.reduceNeg, Bool.or_true, i_str_S, i_str_T, i_str_L, i_str_I, i_int_S, i_int_T, i_int_L, i_int_I, i_bool_S, i_bool_T, i_bool_L, i_bool_I, i_list_S, i_list_T, i_list_L, i_list_I, i_tuple_S, i_tuple_T, i_tuple_L, i_tuple_I, i_dict_S, i_dict_T, i_dict_L, i_dict_I, e_ty_int, e_ty_bool, e_ty_list, e_ty_dict, e_isi2, e_pl3, e_pl4, e_eqB, e_depB, e_ok3, e_r2, e_r3, e_r0, e_for, e_i1, e_p2, e_n0, e_n4, e_ln0, e_ln1, Int.reduceEq, Int.reduceLT, Int.reduceLE, decide_false, Option.isSome_some, Option.isSome_none, Bool.or_self, Bool.true_or, ↓reduceIte, m_term_at, e0, k_lp, k_lb, k_lc, b1, b2, b3, m_shut_at]
    refine sp_term_at a n T (p ++ [123]) ([125] ++ s ++ q) _ _ _ _ (by rw [hT]; simp) (by simp; omega) h.2 (by omega) (by omega) fol_c ?_
    simp only [e_seq, e_next, e_ret, e_retN, e_if, e_asg, e_own, e_drop, e_c, e_var0, e_varS, e_op, e_test, e_and, e_or, e_not, e_andV, e_orV, e_notV, e_ifE, e_chain, e_nil, e_cons, e_tup, e_lst, e_cb, e_call, e_sl, e_part, e_noPart, e_items, e_rng1, e_lc, e_yes, e_fn, e_rho1, e_rho2, e_rho3, e_rho4, e_isi, e_ints, e_CT, e_lenS, e_lenT, e_lenL, e_addI, e_addS, e_addL, e_int, e_intB, e_ixT, e_ixL, e_ixS, e_at0, e_at1, e_at2, e_slT, e_slL, e_slS, e_tail, e_eqS, e_eqI, e_depS, e_depI, e_isiS, e_isiT, e_isiTT, e_isiTS, e_lcN, e_lcC, e_name, e_repl, e_inT, e_inL, e_inS, e_inTab, e_ixTab, e_is, e_isNot, e_eqv, e_nev, e_starts, D.bl.injEq, D.int.injEq, D.str.injEq, D.tup.injEq, exists_eq_left', exists_eq_left, true_and, and_true, and_self, if_true, if_false, ite_true, ite_false, Bool.false_eq_true, Bool.not_true, Bool.not_false, eq_self, List.set_cons_zero, List.set_cons_succ, List.getElem?_cons_zero, List.getElem?_cons_succ, List.length_cons, List.length_nil, List.replicate_zero, List.map_cons, List.map_nil, List.nil_append, List.cons_append, Nat.reduceAdd, Nat.zero_add, noOwn, wipeR, List.all_cons, List.all_nil, List.any_cons, List.any_nil, Bool.and_true, Bool.or_false, Bool.false_or, Bool.and_self, Bool.xor_false, Bool.false_xor, Bool.true_xor, decide_true, Option.some.injEq, e_itT, e_itL, e_itS, e_pl1, e_pl2, e_ty1, e_ty2, e_ok1, e_ok2, e_min, e_one, e_two, e_three, e_nnT, e_nnS, e_fl1, e_fl2, e_fl3, e_starts, e_st2, t_var_pair, t_var_box, t_var_half, t_var_shut, t_var_mark, t_var_mix, t_pair_var, t_pair_box, t_pair_half, t_pair_shut, t_pair_mark, t_pair_mix, t_box_var, t_box_pair, t_box_half, t_box_shut, t_box_mark, t_box_mix, t_half_var, t_half_pair, t_half_box, t_half_shut, t_half_mark, t_half_mix, t_shut_var, t_shut_pair, t_shut_box, t_shut_half, t_shut_mark, t_shut_mix, t_mark_var, t_mark_pair, t_mark_box, t_mark_half, t_mark_shut, t_mark_mix, t_mix_var, t_mix_pair, t_mix_box, t_mix_half, t_mix_shut, t_mix_mark, e_n2, e_n3, Int.reduceNeg, Bool.or_true, i_str_S, i_str_T, i_str_L, i_str_I, i_int_S, i_int_T, i_int_L, i_int_I, i_bool_S, i_bool_T, i_bool_L, i_bool_I, i_list_S, i_list_T, i_list_L, i_list_I, i_tuple_S, i_tuple_T, i_tuple_L, i_tuple_I, i_dict_S, i_dict_T, i_dict_L, i_dict_I, e_ty_int, e_ty_bool, e_ty_list, e_ty_dict, e_isi2, e_pl3, e_pl4, e_eqB, e_depB, e_ok3, e_r2, e_r3, e_r0, e_for, e_i1, e_p2, e_n0, e_n4, e_ln0, e_ln1, Int.reduceEq, Int.reduceLT, Int.reduceLE, decide_false, Option.isSome_some, Option.isSome_none, Bool.or_self, Bool.true_or, ↓reduceIte, k_rc]
    refine sp_behind (p := p ++ [123] ++ a.wd) (q := s ++ q) (by rw [hT]; simp) (by simp; omega) ?_
    simp only [e_seq, e_next, e_ret, e_retN, e_if, e_asg, e_own, e_drop, e_c, e_var0, e_varS, e_op, e_test, e_and, e_or, e_not, e_andV, e_orV, e_notV, e_ifE, e_chain, e_nil, e_cons, e_tup, e_lst, e_cb, e_call, e_sl, e_part, e_noPart, e_items, e_rng1, e_lc, e_yes, e_fn, e_rho1, e_rho2, e_rho3, e_rho4, e_isi, e_ints, e_CT, e_lenS, e_lenT, e_lenL, e_addI, e_addS, e_addL, e_int, e_intB, e_ixT, e_ixL, e_ixS, e_at0, e_at1, e_at2, e_slT, e_slL, e_slS, e_tail, e_eqS, e_eqI, e_depS, e_depI, e_isiS, e_isiT, e_isiTT, e_isiTS, e_lcN, e_lcC, e_name, e_repl, e_inT, e_inL, e_inS, e_inTab, e_ixTab, e_is, e_isNot, e_eqv, e_nev, e_starts, D.bl.injEq, D.int.injEq, D.str.injEq, D.tup.injEq, exists_eq_left', exists_eq_left, true_and, and_true, and_self, if_true, if_false, ite_true, ite_false, Bool.false_eq_true, Bool.not_true, Bool.not_false, eq_self, List.set_cons_zero, List.set_cons_succ, List.getElem?_cons_zero, List.getElem?_cons_succ, List.length_cons, List.length_nil, List.replicate_zero, List.map_cons, List.map_nil, List.nil_append, List.cons_append, Nat.reduceAdd, Nat.zero_add, noOwn, wipeR, List.all_cons, List.all_nil, List.any_cons, List.any_nil, Bool.and_true, Bool.or_false, Bool.false_or, Bool.and_self, Bool.xor_false, Bool.false_xor, Bool.true_xor, decide_true, Option.some.injEq, e_itT, e_itL, e_itS, e_pl1, e_pl2, e_ty1, e_ty2, e_ok1, e_ok2, e_min, e_one, e_two, e_three, e_nnT, e_nnS, e_fl1, e_fl2, e_fl3, e_starts, e_st2, t_var_pair, t_var_box, t_var_half, t_var_shut, t_var_mark, t_var_mix, t_pair_var, t_pair_box, t_pair_half, t_pair_shut, t_pair_mark, t_pair_mix, t_box_var, t_box_pair, t_box_half, t_box_shut, t_box_mark, t_box_mix, t_half_var, t_half_pair, t_half_box, t_half_shut, t_half_mark, t_half_mix, t_shut_var, t_shut_pair, t_shut_box, t_shut_half, t_shut_mark, t_shut_mix, t_mark_var, t_mark_pair, t_mark_box, t_mark_half, t_mark_shut, t_mark_mix, t_mix_var, t_mix_pair, t_mix_box, t_mix_half, t_mix_shut, t_mix_mark, e_n2, e_n3, Int.reduceNeg, Bool.or_true, i_str_S, i_str_T, i_str_L, i_str_I, i_int_S, i_int_T, i_int_L, i_int_I, i_bool_S, i_bool_T, i_bool_L, i_bool_I, i_list_S, i_list_T, i_list_L, i_list_I, i_tuple_S, i_tuple_T, i_tuple_L, i_tuple_I, i_dict_S, i_dict_T, i_dict_L, i_dict_I, e_ty_int, e_ty_bool, e_ty_list, e_ty_dict, e_isi2, e_pl3, e_pl4, e_eqB, e_depB, e_ok3, e_r2, e_r3, e_r0, e_for, e_i1, e_p2, e_n0, e_n4, e_ln0, e_ln1, Int.reduceEq, Int.reduceLT, Int.reduceLE, decide_false, Option.isSome_some, Option.isSome_none, Bool.or_self, Bool.true_or, ↓reduceIte]
    refine sp_leaf_at (p := p ++ [123] ++ a.wd ++ [125]) (w := s) (q := q) (by rw [hT]; simp) (by simp; omega) h.1 hq.no ?_
    simp only [e_seq, e_next, e_ret, e_retN, e_if, e_asg, e_own, e_drop, e_c, e_var0, e_varS, e_op, e_test, e_and, e_or, e_not, e_andV, e_orV, e_notV, e_ifE, e_chain, e_nil, e_cons, e_tup, e_lst, e_cb, e_call, e_sl, e_part, e_noPart, e_items, e_rng1, e_lc, e_yes, e_fn, e_rho1, e_rho2, e_rho3, e_rho4, e_isi, e_ints, e_CT, e_lenS, e_lenT, e_lenL, e_addI, e_addS, e_addL, e_int, e_intB, e_ixT, e_ixL, e_ixS, e_at0, e_at1, e_at2, e_slT, e_slL, e_slS, e_tail, e_eqS, e_eqI, e_depS, e_depI, e_isiS, e_isiT, e_isiTT, e_isiTS, e_lcN, e_lcC, e_name, e_repl, e_inT, e_inL, e_inS, e_inTab, e_ixTab, e_is, e_isNot, e_eqv, e_nev, e_starts, D.bl.injEq, D.int.injEq, D.str.injEq, D.tup.injEq, exists_eq_left', exists_eq_left, true_and, and_true, and_self, if_true, if_false, ite_true, ite_false, Bool.false_eq_true, Bool.not_true, Bool.not_false, eq_self, List.set_cons_zero, List.set_cons_succ, List.getElem?_cons_zero, List.getElem?_cons_succ, List.length_cons, List.length_nil, List.replicate_zero, List.map_cons, List.map_nil, List.nil_append, List.cons_append, Nat.reduceAdd, Nat.zero_add, noOwn, wipeR, List.all_cons, List.all_nil, List.any_cons, List.any_nil, Bool.and_true, Bool.or_false, Bool.false_or, Bool.and_self, Bool.xor_false, Bool.false_xor, Bool.true_xor, decide_true, Option.some.injEq, e_itT, e_itL, e_itS, e_pl1, e_pl2, e_ty1, e_ty2, e_ok1, e_ok2, e_min, e_one, e_two, e_three, e_nnT, e_nnS, e_fl1, e_fl2, e_fl3, e_starts, e_st2, t_var_pair, t_var_box, t_var_half, t_var_shut, t_var_mark, t_var_mix, t_pair_var, t_pair_box, t_pair_half, t_pair_shut, t_pair_mark, t_pair_mix, t_box_var, t_box_pair, t_box_half, t_box_shut, t_box_mark, t_box_mix, t_half_var, t_half_pair, t_half_box, t_half_shut, t_half_mark, t_half_mix, t_shut_var, t_shut_pair, t_shut_box, t_shut_half, t_shut_mark, t_shut_mix, t_mark_var, t_mark_pair, t_mark_box, t_mark_half, t_mark_shut, t_mark_mix, t_mix_var, t_mix_pair, t_mix_box, t_mix_half, t_mix_shut, t_mix_mark, e_n2, e_n3, Int.reduceNeg, Bool.or_true, i_str_S, i_str_T, i_str_L, i_str_I, i_int_S, i_int_T, i_int_L, i_int_I, i_bool_S, i_bool_T, i_bool_L, i_bool_I, i_list_S, i_list_T, i_list_L, i_list_I, i_tuple_S, i_tuple_T, i_tuple_L, i_tuple_I, i_dict_S, i_dict_T, i_dict_L, i_dict_I, e_ty_int, e_ty_bool, e_ty_list, e_ty_dict, e_isi2, e_pl3, e_pl4, e_eqB, e_depB, e_ok3, e_r2, e_r3, e_r0, e_for, e_i1, e_p2, e_n0, e_n4, e_ln0, e_ln1, Int.reduceEq, Int.reduceLT, Int.reduceLE, decide_false, Option.isSome_some, Option.isSome_none, Bool.or_self, Bool.true_or, ↓reduceIte]
    have e : i + (([123] ++ a.wd ++ [125] ++ s).length : Int) = i + 1 + (a.wd.length : Int) + ((0 + 1 : Nat) : Int) + (s.length : Int) := by simp; omega
    rw [e] at k
    exact k
  | .mark s a, n + 1, T, p, q, i, r, Xd, Q, hT, hi, h, hr, hn, hq, k => by
    simp only [Tm.wd, Tm.depth, Tm.d] at hT hr hn k
    have e0 : decide (r = 0) = false := decide_eq_false (by omega)
    have b1 := isbr (T := T) (p := p) (c := 40) (r := a.wd ++ [33] ++ s ++ [41] ++ q) (by rw [hT]; simp) hi
    simp only [e_seq, e_next, e_ret, e_retN, e_if, e_asg, e_own, e_drop, e_c, e_var0, e_varS, e_op, e_test, e_and, e_or, e_not, e_andV, e_orV, e_notV, e_ifE, e_chain, e_nil, e_cons, e_tup, e_lst, e_cb, e_call, e_sl, e_part, e_noPart, e_items, e_rng1, e_lc, e_yes, e_fn, e_rho1, e_rho2, e_rho3, e_rho4, e_isi, e_ints, e_CT, e_lenS, e_lenT, e_lenL, e_addI, e_addS, e_addL, e_int, e_intB, e_ixT, e_ixL, e_ixS, e_at0, e_at1, e_at2, e_slT, e_slL, e_slS, e_tail, e_eqS, e_eqI, e_depS, e_depI, e_isiS, e_isiT, e_isiTT, e_isiTS, e_lcN, e_lcC, e_name, e_repl, e_inT, e_inL, e_inS, e_inTab, e_ixTab, e_is, e_isNot, e_eqv, e_nev, e_starts, D.bl.injEq, D.int.injEq, D.str.injEq, D.tup.injEq, exists_eq_left', exists_eq_left, true_and, and_true, and_self, if_true, if_false, ite_true, ite_false, Bool.false_eq_true, Bool.not_true, Bool.not_false, eq_self, List.set_cons_zero, List.set_cons_succ, List.getElem?_cons_zero, List.getElem?_cons_succ, List.length_cons, List.length_nil, List.replicate_zero, List.map_cons, List.map_nil, List.nil_append, List.cons_append, Nat.reduceAdd, Nat.zero_add, noOwn, wipeR, List.all_cons, List.all_nil, List.any_cons, List.any_nil, Bool.and_true, Bool.or_false, Bool.false_or, Bool.and_self, Bool.xor_false, Bool.false_xor, Bool.true_xor, decide_true, Option.some.injEq, e_itT, e_itL, e_itS, e_pl1, e_pl2, e_ty1, e_ty2, e_ok1, e_ok2, e_min, e_one, e_two, e_three, e_nnT, e_nnS, e_fl1, e_fl2, e_fl3, e_starts, e_st2, t_var_pair, t_var_box, t_var_half, t_var_shut, t_var_mark, t_var_mix, t_pair_var, t_pair_box, t_pair_half, t_pair_shut, t_pair_mark, t_pair_mix, t_box_var, t_box_pair, t_box_half, t_box_shut, t_box_mark, t_box_mix, t_half_var, t_half_pair, t_half_box, t_half_shut, t_half_mark, t_half_mix, t_shut_var, t_shut_pair, t_shut_box, t_shut_half, t_shut_mark, t_shut_mix, t_mark_var, t_mark_pair, t_mark_box, t_mark_half, t_mark_shut, t_mark_mix, t_mix_var, t_mix_pair, t_mix_box, t_mix_half, t_mix_shut, t_mix_mark, e_n2, e_n3, Int.reduceNeg, Bool.or_true, i_str_S, i_str_T, i_str_L, i_str_I, i_int_S, i_int_T, i_int_L, i_int_I, i_bool_S, i_bool_T, i_bool_L, i_bool_I, i_list_S, i_list_T, i_list_L, i_list_I, i_tuple_S, i_tuple_T, i_tuple_L, i_tuple_I, i_dict_S, i_dict_T, i_dict_L, i_dict_I, e_ty_int, e_ty_bool, e_ty_list, e_ty_dict, e_isi2, e_pl3, e_pl4, e_eqB, e_depB, e_ok3, e_r2, e_r3, e_r0, e_for, e_i1, e_p2, e_n0, e_n4, e_ln0, e_ln1, Int.reduceEq, Int.reduceLT, Int.reduceLE, decide_false, Option.isSome_some, Option.isSome_none, Bool.or_self, Bool.true_or, ↓reduceIte, m_term_at, e0, k_lp, b1, m_round_at]
    refine sp_term_at a n T (p ++ [40]) ([33] ++ s ++ [41] ++ q) _ _ _ _ (by rw [hT]; simp) (by simp; omega) h.2 (by omega) (by omega) fol_c ?_
    have b2 : Txt.startswith3 (St T) (St [32, 38, 32]) (i + 1 + (a.wd.length : Int)) = false := by
      rw [sw (p := p ++ [40] ++ a.wd) (r := 33 :: (s ++ [41] ++ q)) (by rw [hT]; simp) (by simp; omega)]
      simp [List.isPrefixOf]
    have b3 := isbr (T := T) (p := p ++ [40] ++ a.wd) (i := i + 1 + (a.wd.length : Int)) (c := 33) (r := s ++ [41] ++ q) (by rw [hT]; simp) (by simp; omega)
    simp only [e_seq, e_next, e_ret, e_retN, e_if, e_asg, e_own, e_drop, e_c, e_var0, e_varS, e_op, e_test, e_and, e_or, e_not, e_andV, e_orV, e_notV, e_ifE, e_chain, e_nil, e_cons, e_tup, e_lst, e_cb, e_call, e_sl, e_part, e_noPart, e_items, e_rng1, e_lc, e_yes, e_fn, e_rho1, e_rho2, e_rho3, e_rho4, e_isi, e_ints, e_CT, e_lenS, e_lenT, e_lenL, e_addI, e_addS, e_addL, e_int, e_intB, e_ixT, e_ixL, e_ixS, e_at0, e_at1, e_at2, e_slT, e_slL, e_slS, e_tail, e_eqS, e_eqI, e_depS, e_depI, e_isiS, e_isiT, e_isiTT, e_isiTS, e_lcN, e_lcC, e_name, e_repl, e_inT, e_inL, e_inS, e_inTab, e_ixTab, e_is, e_isNot, e_eqv, e_nev, e_starts, D.bl.injEq, D.int.injEq, D.str.injEq, D.tup.injEq, exists_eq_left', exists_eq_left, true_and, and_true, and_self, if_true, if_false, ite_true, ite_false, Bool.false_eq_true, Bool.not_true, Bool.not_false, eq_self, List.set_cons_zero, List.set_cons_succ, List.getElem?_cons_zero, List.getElem?_cons_succ, List.length_cons, List.length_nil, List.replicate_zero, List.map_cons, List.map_nil, List.nil_append, List.cons_append, Nat.reduceAdd, Nat.zero_add, noOwn, wipeR, List.all_cons, List.all_nil, List.any_cons, List.any_nil, Bool.and_true, Bool.or_false, Bool.false_or, Bool.and_self, Bool.xor_false, Bool.false_xor, Bool.true_xor, decide_true, Option.some.injEq, e_itT, e_itL, e_itS, e_pl1, e_pl2, e_ty1, e_ty2, e_ok1, e_ok2, e_min, e_one, e_two, e_three, e_nnT, e_nnS, e_fl1, e_fl2, e_fl3, e_starts, e_st2, t_var_pair, t_var_box, t_var_half, t_var_shut, t_var_mark, t_var_mix, t_pair_var, t_pair_box, t_pair_half, t_pair_shut, t_pair_mark, t_pair_mix, t_box_var, t_box_pair, t_box_half, t_box_shut, t_box_mark, t_box_mix, t_half_var, t_half_pair, t_half_box, t_half_shut, t_half_mark, t_half_mix, t_shut_var, t_shut_pair, t_shut_box, t_shut_half, t_shut_mark, t_shut_mix, t_mark_var, t_mark_pair, t_mark_box, t_mark_half, t_mark_shut, t_mark_mix, t_mix_var, t_mix_pair, t_mix_box, t_mix_half, t_mix_shut, t_mix_mark, e_n2, e_n3, Int.reduceNeg, Bool.or_true, i_str_S, i_str_T, i_str_L, i_str_I, i_int_S, i_int_T, i_int_L, i_int_I, i_bool_S, i_bool_T, i_bool_L, i_bool_I, i_list_S, i_list_T, i_list_L, i_list_I, i_tuple_S, i_tuple_T, i_tuple_L, i_tuple_I, i_dict_S, i_dict_T, i_dict_L, i_dict_I, e_ty_int, e_ty_bool, e_ty_list, e_ty_dict, e_isi2, e_pl3, e_pl4, e_eqB, e_depB, e_ok3, e_r2, e_r3, e_r0, e_for, e_i1, e_p2, e_n0, e_n4, e_ln0, e_ln1, Int.reduceEq, Int.reduceLT, Int.reduceLE, decide_false, Option.isSome_some, Option.isSome_none, Bool.or_self, Bool.true_or, ↓reduceIte, k_and, b2, k_ex, b3]
    refine sp_leaf_at (p := p ++ [40] ++ a.wd ++ [33]) (w := s) (q := [41] ++ q) (by rw [hT]; simp) (by simp; omega) h.1 (by rintro c r e; cases e; omega) ?_
    simp only [e_seq, e_next, e_ret, e_retN, e_if, e_asg, e_own, e_drop, e_c, e_var0, e_varS, e_op, e_test, e_and, e_or, e_not, e_andV, e_orV, e_notV, e_ifE, e_chain, e_nil, e_cons, e_tup, e_lst, e_cb, e_call, e_sl, e_part, e_noPart, e_items, e_rng1, e_lc, e_yes, e_fn, e_rho1, e_rho2, e_rho3, e_rho4, e_isi, e_ints, e_CT, e_lenS, e_lenT, e_lenL, e_addI, e_addS, e_addL, e_int, e_intB, e_ixT, e_ixL, e_ixS, e_at0, e_at1, e_at2, e_slT, e_slL, e_slS, e_tail, e_eqS, e_eqI, e_depS, e_depI, e_isiS, e_isiT, e_isiTT, e_isiTS, e_lcN, e_lcC, e_name, e_repl, e_inT, e_inL, e_inS, e_inTab, e_ixTab, e_is, e_isNot, e_eqv, e_nev, e_starts, D.bl.injEq, D.int.injEq, D.str.injEq, D.tup.injEq, exists_eq_left', exists_eq_left, true_and, and_true, and_self, if_true, if_false, ite_true, ite_false, Bool.false_eq_true, Bool.not_true, Bool.not_false, eq_self, List.set_cons_zero, List.set_cons_succ, List.getElem?_cons_zero, List.getElem?_cons_succ, List.length_cons, List.length_nil, List.replicate_zero, List.map_cons, List.map_nil, List.nil_append, List.cons_append, Nat.reduceAdd, Nat.zero_add, noOwn, wipeR, List.all_cons, List.all_nil, List.any_cons, List.any_nil, Bool.and_true, Bool.or_false, Bool.false_or, Bool.and_self, Bool.xor_false, Bool.false_xor, Bool.true_xor, decide_true, Option.some.injEq, e_itT, e_itL, e_itS, e_pl1, e_pl2, e_ty1, e_ty2, e_ok1, e_ok2, e_min, e_one, e_two, e_three, e_nnT, e_nnS, e_fl1, e_fl2, e_fl3, e_starts, e_st2, t_var_pair, t_var_box, t_var_half, t_var_shut, t_var_mark, t_var_mix, t_pair_var, t_pair_box, t_pair_half, t_pair_shut, t_pair_mark, t_pair_mix, t_box_var, t_box_pair, t_box_half, t_box_shut, t_box_mark, t_box_mix, t_half_var, t_half_pair, t_half_box, t_half_shut, t_half_mark, t_half_mix, t_shut_var, t_shut_pair, t_shut_box, t_shut_half, t_shut_mark, t_shut_mix, t_mark_var, t_mark_pair, t_mark_box, t_mark_half, t_mark_shut, t_mark_mix, t_mix_var, t_mix_pair, t_mix_box, t_mix_half, t_mix_shut, t_mix_mark, e_n2, e_n3, Int.reduceNeg, Bool.or_true, i_str_S, i_str_T, i_str_L, i_str_I, i_int_S, i_int_T, i_int_L, i_int_I, i_bool_S, i_bool_T, i_bool_L, i_bool_I, i_list_S, i_list_T, i_list_L, i_list_I, i_tuple_S, i_tuple_T, i_tuple_L, i_tuple_I, i_dict_S, i_dict_T, i_dict_L, i_dict_I, e_ty_int, e_ty_bool, e_ty_list, e_ty_dict, e_isi2, e_pl3, e_pl4, e_eqB, e_depB, e_ok3, e_r2, e_r3, e_r0, e_for, e_i1, e_p2, e_n0, e_n4, e_ln0, e_ln1, Int.reduceEq, Int.reduceLT, Int.reduceLE, decide_false, Option.isSome_some, Option.isSome_none, Bool.or_self, Bool.true_or, ↓reduceIte, k_rp]
    refine sp_behind (p := p ++ [40] ++ a.wd ++ [33] ++ s) (q := q) (by rw [hT]; simp) (by simp; omega) ?_
    simp only [e_seq, e_next, e_ret, e_retN, e_if, e_asg, e_own, e_drop, e_c, e_var0, e_varS, e_op, e_test, e_and, e_or, e_not, e_andV, e_orV, e_notV, e_ifE, e_chain, e_nil, e_cons, e_tup, e_lst, e_cb, e_call, e_sl, e_part, e_noPart, e_items, e_rng1, e_lc, e_yes, e_fn, e_rho1, e_rho2, e_rho3, e_rho4, e_isi, e_ints, e_CT, e_lenS, e_lenT, e_lenL, e_addI, e_addS, e_addL, e_int, e_intB, e_ixT, e_ixL, e_ixS, e_at0, e_at1, e_at2, e_slT, e_slL, e_slS, e_tail, e_eqS, e_eqI, e_depS, e_depI, e_isiS, e_isiT, e_isiTT, e_isiTS, e_lcN, e_lcC, e_name, e_repl, e_inT, e_inL, e_inS, e_inTab, e_ixTab, e_is, e_isNot, e_eqv, e_nev, e_starts, D.bl.injEq, D.int.injEq, D.str.injEq, D.tup.injEq, exists_eq_left', exists_eq_left, true_and, and_true, and_self, if_true, if_false, ite_true, ite_false, Bool.false_eq_true, Bool.not_true, Bool.not_false, eq_self, List.set_cons_zero, List.set_cons_succ, List.getElem?_cons_zero, List.getElem?_cons_succ, List.length_cons, List.length_nil, List.replicate_zero, List.map_cons, List.map_nil, List.nil_append, List.cons_append, Nat.reduceAdd, Nat.zero_add, noOwn, wipeR, List.all_cons, List.all_nil, List.any_cons, List.any_nil, Bool.and_true, Bool.or_false, Bool.false_or, Bool.and_self, Bool.xor_false, Bool.false_xor, Bool.true_xor, decide_true, Option.some.injEq, e_itT, e_itL, e_itS, e_pl1, e_pl2, e_ty1, e_ty2, e_ok1, e_ok2, e_min, e_one, e_two, e_three, e_nnT, e_nnS, e_fl1, e_fl2, e_fl3, e_starts, e_st2, t_var_pair, t_var_box, t_var_half, t_var_shut, t_var_mark, t_var_mix, t_pair_var, t_pair_box, t_pair_half, t_pair_shut, t_pair_mark, t_pair_mix, t_box_var, t_box_pair, t_box_half, t_box_shut, t_box_mark, t_box_mix, t_half_var, t_half_pair, t_half_box, t_half_shut, t_half_mark, t_half_mix, t_shut_var, t_shut_pair, t_shut_box, t_shut_half, t_shut_mark, t_shut_mix, t_mark_var, t_mark_pair, t_mark_box, t_mark_half, t_mark_shut, t_mark_mix, t_mix_var, t_mix_pair, t_mix_box, t_mix_half, t_mix_shut, t_mix_mark, e_n2, e_n3, Int.reduceNeg, Bool.or_true, i_str_S, i_str_T, i_str_L, i_str_I, i_int_S, i_int_T, i_int_L, i_int_I, i_bool_S, i_bool_T, i_bool_L, i_bool_I, i_list_S, i_list_T, i_list_L, i_list_I, i_tuple_S, i_tuple_T, i_tuple_L, i_tuple_I, i_dict_S, i_dict_T, i_dict_L, i_dict_I, e_ty_int, e_ty_bool, e_ty_list, e_ty_dict, e_isi2, e_pl3, e_pl4, e_eqB, e_depB, e_ok3, e_r2, e_r3, e_r0, e_for, e_i1, e_p2, e_n0, e_n4, e_ln0, e_ln1, Int.reduceEq, Int.reduceLT, Int.reduceLE, decide_false, Option.isSome_some, Option.isSome_none, Bool.or_self, Bool.true_or, ↓reduceIte]
    have e : i + (([40] ++ a.wd ++ [33] ++ s ++ [41]).length : Int) = i + 1 + (a.wd.length : Int) + 1 + (s.length : Int) + ((0 + 1 : Nat) : Int) := by simp; omega
    rw [e] at k
    exact k
  | .mix a, n + 1, T, p, q, i, r, Xd, Q, hT, hi, h, hr, hn, hq, k => by
    simp only [Tm.wd, Tm.depth, Tm.d] at hT hr hn k
    have e0 : decide (r = 0) = false := decide_eq_false (by have := Tm.dpos a; omega)
    have hT2 : T = p ++ 109 :: ([105, 120, 40] ++ a.wd ++ [41] ++ q) := by rw [hT]; simp
    have b1 := nobr (x := 40) hT2 hi (by omega)
    have b2 := nobr (x := 91) hT2 hi (by omega)
    have b3 := nobr (x := 123) hT2 hi (by omega)
    simp only [e_seq, e_next, e_ret, e_retN, e_if, e_asg, e_own, e_drop, e_c, e_var0, e_varS, e_op, e_test, e_and, e_or, e_not, e_andV, e_orV, e_notV, e_ifE, e_chain, e_nil, e_cons, e_tup, e_lst, e_cb, e_call, e_sl, e_part, e_noPart, e_items, e_rng1, e_lc, e_yes, e_fn, e_rho1, e_rho2, e_rho3, e_rho4, e_isi, e_ints, e_CT, e_lenS, e_lenT, e_lenL, e_addI, e_addS, e_addL, e_int, e_intB, e_ixT, e_ixL, e_ixS, e_at0, e_at1, e_at2, e_slT, e_slL, e_slS, e_tail, e_eqS, e_eqI, e_depS, e_depI, e_isiS, e_isiT, e_isiTT, e_isiTS, e_lcN, e_lcC, e_name, e_repl, e_inT, e_inL, e_inS, e_inTab, e_ixTab, e_is, e_isNot, e_eqv, e_nev, e_starts, D.bl.injEq, D.int.injEq, D.str.injEq, D.tup.injEq, exists_eq_left', exists_eq_left, true_and, and_true, and_self, if_true, if_false, ite_true, ite_false, Bool.false_eq_true, Bool.not_true, Bool.not_false, eq_self, List.set_cons_zero, List.set_cons_succ, List.getElem?_cons_zero, List.getElem?_cons_succ, List.length_cons, List.length_nil, List.replicate_zero, List.map_cons, List.map_nil, List.nil_append, List.cons_append, Nat.reduceAdd, Nat.zero_add, noOwn, wipeR, List.all_cons, List.all_nil, List.any_cons, List.any_nil, Bool.and_true, Bool.or_false, Bool.false_or, Bool.and_self, Bool.xor_false, Bool.false_xor, Bool.true_xor, decide_true, Option.some.injEq, e_itT, e_itL, e_itS, e_pl1, e_pl2, e_ty1, e_ty2, e_ok1, e_ok2, e_min, e_one, e_two, e_three, e_nnT, e_nnS, e_fl1, e_fl2, e_fl3, e_starts, e_st2, t_var_pair, t_var_box, t_var_half, t_var_shut, t_var_mark, t_var_mix, t_pair_var, t_pair_box, t_pair_half, t_pair_shut, t_pair_mark, t_pair_mix, t_box_var, t_box_pair, t_box_half, t_box_shut, t_box_mark, t_box_mix, t_half_var, t_half_pair, t_half_box, t_half_shut, t_half_mark, t_half_mix, t_shut_var, t_shut_pair, t_shut_box, t_shut_half, t_shut_mark, t_shut_mix, t_mark_var, t_mark_pair, t_mark_box, t_mark_half, t_mark_shut, t_mark_mix, t_mix_var, t_mix_pair, t_mix_box, t_mix_half, t_mix_shut, t_mix_mark, e_n2, e_n3, Int.reduceNeg, Bool.or_true, i_str_S, i_str_T, i_str_L, i_str_I, i_int_S, i_int_T, i_int_L, i_int_I, i_bool_S, i_bool_T, i_bool_L, i_bool_I, i_list_S, i_list_T, i_list_L, i_list_I, i_tuple_S, i_tuple_T, i_tuple_L, i_tuple_I, i_dict_S, i_dict_T, i_dict_L, i_dict_I, e_ty_int, e_ty_bool, e_ty_list, e_ty_dict, e_isi2, e_pl3, e_pl4, e_eqB, e_depB, e_ok3, e_r2, e_r3, e_r0, e_for, e_i1, e_p2, e_n0, e_n4, e_ln0, e_ln1, Int.reduceEq, Int.reduceLT, Int.reduceLE, decide_false, Option.isSome_some, Option.isSome_none, Bool.or_self, Bool.true_or, ↓reduceIte, m_term_at, e0, k_lp, k_lb, k_lc, b1, b2, b3, m_word_at]
    refine sp_word_end (p := p) (w := [109, 105, 120]) (q := [40] ++ a.wd ++ [41] ++ q) (by rw [hT]; simp) hi (by simp) (by rintro c r e; cases e; omega) ?_
    have e3 : L2.cutS (St T) (some i) (some (i + (([109, 105, 120] : List Nat).length : Int))) = St [109, 105, 120] := cut_is (p := p) (q := [40] ++ a.wd ++ [41] ++ q) (by rw [hT]; simp) hi rfl
    have n1 : (([109, 105, 120] : List Nat).length : Int) = 3 := rfl
    rw [n1] at e3 ⊢
    have e5 : decide (St [109, 105, 120] = Str.ofString "mix") = true := by rw [k_mixw]; exact decide_eq_true rfl
    have e6 := isbr (T := T) (p := p ++ [109, 105, 120]) (i := i + 3) (c := 40) (r := a.wd ++ [41] ++ q) (by rw [hT]; simp) (by simp; omega)
    simp only [e_seq, e_next, e_ret, e_retN, e_if, e_asg, e_own, e_drop, e_c, e_var0, e_varS, e_op, e_test, e_and, e_or, e_not, e_andV, e_orV, e_notV, e_ifE, e_chain, e_nil, e_cons, e_tup, e_lst, e_cb, e_call, e_sl, e_part, e_noPart, e_items, e_rng1, e_lc, e_yes, e_fn, e_rho1, e_rho2, e_rho3, e_rho4, e_isi, e_ints, e_CT, e_lenS, e_lenT, e_lenL, e_addI, e_addS, e_addL, e_int, e_intB, e_ixT, e_ixL, e_ixS, e_at0, e_at1, e_at2, e_slT, e_slL, e_slS, e_tail, e_eqS, e_eqI, e_depS, e_depI, e_isiS, e_isiT, e_isiTT, e_isiTS, e_lcN, e_lcC, e_name, e_repl, e_inT, e_inL, e_inS, e_inTab, e_ixTab, e_is, e_isNot, e_eqv, e_nev, e_starts, D.bl.injEq, D.int.injEq, D.str.injEq, D.tup.injEq, exists_eq_left', exists_eq_left, true_and, and_true, and_self, if_true, if_false, ite_true, ite_false, Bool.false_eq_true, Bool.not_true, Bool.not_false, eq_self, List.set_cons_zero, List.set_cons_succ, List.getElem?_cons_zero, List.getElem?_cons_succ, List.length_cons, List.length_nil, List.replicate_zero, List.map_cons, List.map_nil, List.nil_append, List.cons_append, Nat.reduceAdd, Nat.zero_add, noOwn, wipeR, List.all_cons, List.all_nil, List.any_cons, List.any_nil, Bool.and_true, Bool.or_false, Bool.false_or, Bool.and_self, Bool.xor_false, Bool.false_xor, Bool.true_xor, decide_true, Option.some.injEq, e_itT, e_itL, e_itS, e_pl1, e_pl2, e_ty1, e_ty2, e_ok1, e_ok2, e_min, e_one, e_two, e_three, e_nnT, e_nnS, e_fl1, e_fl2, e_fl3, e_starts, e_st2, t_var_pair, t_var_box, t_var_half, t_var_shut, t_var_mark, t_var_mix, t_pair_var, t_pair_box, t_pair_half, t_pair_shut, t_pair_mark, t_pair_mix, t_box_var, t_box_pair, t_box_half, t_box_shut, t_box_mark, t_box_mix, t_half_var, t_half_pair, t_half_box, t_half_shut, t_half_mark, t_half_mix, t_shut_var, t_shut_pair, t_shut_box, t_shut_half, t_shut_mark, t_shut_mix, t_mark_var, t_mark_pair, t_mark_box, t_mark_half, t_mark_shut, t_mark_mix, t_mix_var, t_mix_pair, t_mix_box, t_mix_half, t_mix_shut, t_mix_mark, e_n2, e_n3, Int.reduceNeg, Bool.or_true, i_str_S, i_str_T, i_str_L, i_str_I, i_int_S, i_int_T, i_int_L, i_int_I, i_bool_S, i_bool_T, i_bool_L, i_bool_I, i_list_S, i_list_T, i_list_L, i_list_I, i_tuple_S, i_tuple_T, i_tuple_L, i_tuple_I, i_dict_S, i_dict_T, i_dict_L, i_dict_I, e_ty_int, e_ty_bool, e_ty_list, e_ty_dict, e_isi2, e_pl3, e_pl4, e_eqB, e_depB, e_ok3, e_r2, e_r3, e_r0, e_for, e_i1, e_p2, e_n0, e_n4, e_ln0, e_ln1, Int.reduceEq, Int.reduceLT, Int.reduceLE, decide_false, Option.isSome_some, Option.isSome_none, Bool.or_self, Bool.true_or, ↓reduceIte, e3, e5, k_lp, e6]
    refine sp_term_at a n T (p ++ [109, 105, 120, 40]) ([41] ++ q) _ _ _ _ (by rw [hT]; simp) (by simp; omega) h (by omega) (by omega) fol_c ?_
    simp only [e_seq, e_next, e_ret, e_retN, e_if, e_asg, e_own, e_drop, e_c, e_var0, e_varS, e_op, e_test, e_and, e_or, e_not, e_andV, e_orV, e_notV, e_ifE, e_chain, e_nil, e_cons, e_tup, e_lst, e_cb, e_call, e_sl, e_part, e_noPart, e_items, e_rng1, e_lc, e_yes, e_fn, e_rho1, e_rho2, e_rho3, e_rho4, e_isi, e_ints, e_CT, e_lenS, e_lenT, e_lenL, e_addI, e_addS, e_addL, e_int, e_intB, e_ixT, e_ixL, e_ixS, e_at0, e_at1, e_at2, e_slT, e_slL, e_slS, e_tail, e_eqS, e_eqI, e_depS, e_depI, e_isiS, e_isiT, e_isiTT, e_isiTS, e_lcN, e_lcC, e_name, e_repl, e_inT, e_inL, e_inS, e_inTab, e_ixTab, e_is, e_isNot, e_eqv, e_nev, e_starts, D.bl.injEq, D.int.injEq, D.str.injEq, D.tup.injEq, exists_eq_left', exists_eq_left, true_and, and_true, and_self, if_true, if_false, ite_true, ite_false, Bool.false_eq_true, Bool.not_true, Bool.not_false, eq_self, List.set_cons_zero, List.set_cons_succ, List.getElem?_cons_zero, List.getElem?_cons_succ, List.length_cons, List.length_nil, List.replicate_zero, List.map_cons, List.map_nil, List.nil_append, List.cons_append, Nat.reduceAdd, Nat.zero_add, noOwn, wipeR, List.all_cons, List.all_nil, List.any_cons, List.any_nil, Bool.and_true, Bool.or_false, Bool.false_or, Bool.and_self, Bool.xor_false, Bool.false_xor, Bool.true_xor, decide_true, Option.some.injEq, e_itT, e_itL, e_itS, e_pl1, e_pl2, e_ty1, e_ty2, e_ok1, e_ok2, e_min, e_one, e_two, e_three, e_nnT, e_nnS, e_fl1, e_fl2, e_fl3, e_starts, e_st2, t_var_pair, t_var_box, t_var_half, t_var_shut, t_var_mark, t_var_mix, t_pair_var, t_pair_box, t_pair_half, t_pair_shut, t_pair_mark, t_pair_mix, t_box_var, t_box_pair, t_box_half, t_box_shut, t_box_mark, t_box_mix, t_half_var, t_half_pair, t_half_box, t_half_shut, t_half_mark, t_half_mix, t_shut_var, t_shut_pair, t_shut_box, t_shut_half, t_shut_mark, t_shut_mix, t_mark_var, t_mark_pair, t_mark_box, t_mark_half, t_mark_shut, t_mark_mix, t_mix_var, t_mix_pair, t_mix_box, t_mix_half, t_mix_shut, t_mix_mark, e_n2, e_n3, Int.reduceNeg, Bool.or_true, i_str_S, i_str_T, i_str_L, i_str_I, i_int_S, i_int_T, i_int_L, i_int_I, i_bool_S, i_bool_T, i_bool_L, i_bool_I, i_list_S, i_list_T, i_list_L, i_list_I, i_tuple_S, i_tuple_T, i_tuple_L, i_tuple_I, i_dict_S, i_dict_T, i_dict_L, i_dict_I, e_ty_int, e_ty_bool, e_ty_list, e_ty_dict, e_isi2, e_pl3, e_pl4, e_eqB, e_depB, e_ok3, e_r2, e_r3, e_r0, e_for, e_i1, e_p2, e_n0, e_n4, e_ln0, e_ln1, Int.reduceEq, Int.reduceLT, Int.reduceLE, decide_false, Option.isSome_some, Option.isSome_none, Bool.or_self, Bool.true_or, ↓reduceIte, k_rp]
    refine sp_behind (p := p ++ [109, 105, 120, 40] ++ a.wd) (q := q) (by rw [hT]; simp) (by simp; omega) ?_
    simp only [e_seq, e_next, e_ret, e_retN, e_if, e_asg, e_own, e_drop, e_c, e_var0, e_varS, e_op, e_test, e_and, e_or, e_not, e_andV, e_orV, e_notV, e_ifE, e_chain, e_nil, e_cons, e_tup, e_lst, e_cb, e_call, e_sl, e_part, e_noPart, e_items, e_rng1, e_lc, e_yes, e_fn, e_rho1, e_rho2, e_rho3, e_rho4, e_isi, e_ints, e_CT, e_lenS, e_lenT, e_lenL, e_addI, e_addS, e_addL, e_int, e_intB, e_ixT, e_ixL, e_ixS, e_at0, e_at1, e_at2, e_slT, e_slL, e_slS, e_tail, e_eqS, e_eqI, e_depS, e_depI, e_isiS, e_isiT, e_isiTT, e_isiTS, e_lcN, e_lcC, e_name, e_repl, e_inT, e_inL, e_inS, e_inTab, e_ixTab, e_is, e_isNot, e_eqv, e_nev, e_starts, D.bl.injEq, D.int.injEq, D.str.injEq, D.tup.injEq, exists_eq_left', exists_eq_left, true_and, and_true, and_self, if_true, if_false, ite_true, ite_false, Bool.false_eq_true, Bool.not_true, Bool.not_false, eq_self, List.set_cons_zero, List.set_cons_succ, List.getElem?_cons_zero, List.getElem?_cons_succ, List.length_cons, List.length_nil, List.replicate_zero, List.map_cons, List.map_nil, List.nil_append, List.cons_append, Nat.reduceAdd, Nat.zero_add, noOwn, wipeR, List.all_cons, List.all_nil, List.any_cons, List.any_nil, Bool.and_true, Bool.or_false, Bool.false_or, Bool.and_self, Bool.xor_false, Bool.false_xor, Bool.true_xor, decide_true, Option.some.injEq, e_itT, e_itL, e_itS, e_pl1, e_pl2, e_ty1, e_ty2, e_ok1, e_ok2, e_min, e_one, e_two, e_three, e_nnT, e_nnS, e_fl1, e_fl2, e_fl3, e_starts, e_st2, t_var_pair, t_var_box, t_var_half, t_var_shut, t_var_mark, t_var_mix, t_pair_var, t_pair_box, t_pair_half, t_pair_shut, t_pair_mark, t_pair_mix, t_box_var, t_box_pair, t_box_half, t_box_shut, t_box_mark, t_box_mix, t_half_var, t_half_pair, t_half_box, t_half_shut, t_half_mark, t_half_mix, t_shut_var, t_shut_pair, t_shut_box, t_shut_half, t_shut_mark, t_shut_mix, t_mark_var, t_mark_pair, t_mark_box, t_mark_half, t_mark_shut, t_mark_mix, t_mix_var, t_mix_pair, t_mix_box, t_mix_half, t_mix_shut, t_mix_mark, e_n2, e_n3, Int.reduceNeg, Bool.or_true, i_str_S, i_str_T, i_str_L, i_str_I, i_int_S, i_int_T, i_int_L, i_int_I, i_bool_S, i_bool_T, i_bool_L, i_bool_I, i_list_S, i_list_T, i_list_L, i_list_I, i_tuple_S, i_tuple_T, i_tuple_L, i_tuple_I, i_dict_S, i_dict_T, i_dict_L, i_dict_I, e_ty_int, e_ty_bool, e_ty_list, e_ty_dict, e_isi2, e_pl3, e_pl4, e_eqB, e_depB, e_ok3, e_r2, e_r3, e_r0, e_for, e_i1, e_p2, e_n0, e_n4, e_ln0, e_ln1, Int.reduceEq, Int.reduceLT, Int.reduceLE, decide_false, Option.isSome_some, Option.isSome_none, Bool.or_self, Bool.true_or, ↓reduceIte]
    have e : i + (([109, 105, 120, 40] ++ a.wd ++ [41]).length : Int) = i + 3 + 1 + (a.wd.length : Int) + ((0 + 1 : Nat) : Int) := by simp; omega
    rw [e] at k
    exact k
theorem sp_read_any {t : Tm} (h : t.ok) (hd : t.depth ≤ 12) (hs : t.size ≤ 40) (q : Q t.d) : m_read_any [.str (St t.wd), .bl false] Xd Q := by
  simp only [e_seq, e_next, e_ret, e_retN, e_if, e_asg, e_own, e_drop, e_c, e_var0, e_varS, e_op, e_test, e_and, e_or, e_not, e_andV, e_orV, e_notV, e_ifE, e_chain, e_nil, e_cons, e_tup, e_lst, e_cb, e_call, e_sl, e_part, e_noPart, e_items, e_rng1, e_lc, e_yes, e_fn, e_rho1, e_rho2, e_rho3, e_rho4, e_isi, e_ints, e_CT, e_lenS, e_lenT, e_lenL, e_addI, e_addS, e_addL, e_int, e_intB, e_ixT, e_ixL, e_ixS, e_at0, e_at1, e_at2, e_slT, e_slL, e_slS, e_tail, e_eqS, e_eqI, e_depS, e_depI, e_isiS, e_isiT, e_isiTT, e_isiTS, e_lcN, e_lcC, e_name, e_repl, e_inT, e_inL, e_inS, e_inTab, e_ixTab, e_is, e_isNot, e_eqv, e_nev, e_starts, D.bl.injEq, D.int.injEq, D.str.injEq, D.tup.injEq, exists_eq_left', exists_eq_left, true_and, and_true, and_self, if_true, if_false, ite_true, ite_false, Bool.false_eq_true, Bool.not_true, Bool.not_false, eq_self, List.set_cons_zero, List.set_cons_succ, List.getElem?_cons_zero, List.getElem?_cons_succ, List.length_cons, List.length_nil, List.replicate_zero, List.map_cons, List.map_nil, List.nil_append, List.cons_append, Nat.reduceAdd, Nat.zero_add, noOwn, wipeR, List.all_cons, List.all_nil, List.any_cons, List.any_nil, Bool.and_true, Bool.or_false, Bool.false_or, Bool.and_self, Bool.xor_false, Bool.false_xor, Bool.true_xor, decide_true, Option.some.injEq, e_itT, e_itL, e_itS, e_pl1, e_pl2, e_ty1, e_ty2, e_ok1, e_ok2, e_min, e_one, e_two, e_three, e_nnT, e_nnS, e_fl1, e_fl2, e_fl3, e_starts, e_st2, t_var_pair, t_var_box, t_var_half, t_var_shut, t_var_mark, t_var_mix, t_pair_var, t_pair_box, t_pair_half, t_pair_shut, t_pair_mark, t_pair_mix, t_box_var, t_box_pair, t_box_half, t_box_shut, t_box_mark, t_box_mix, t_half_var, t_half_pair, t_half_box, t_half_shut, t_half_mark, t_half_mix, t_shut_var, t_shut_pair, t_shut_box, t_shut_half, t_shut_mark, t_shut_mix, t_mark_var, t_mark_pair, t_mark_box, t_mark_half, t_mark_shut, t_mark_mix, t_mix_var, t_mix_pair, t_mix_box, t_mix_half, t_mix_shut, t_mix_mark, e_n2, e_n3, Int.reduceNeg, Bool.or_true, i_str_S, i_str_T, i_str_L, i_str_I, i_int_S, i_int_T, i_int_L, i_int_I, i_bool_S, i_bool_T, i_bool_L, i_bool_I, i_list_S, i_list_T, i_list_L, i_list_I, i_tuple_S, i_tuple_T, i_tuple_L, i_tuple_I, i_dict_S, i_dict_T, i_dict_L, i_dict_I, e_ty_int, e_ty_bool, e_ty_list, e_ty_dict, e_isi2, e_pl3, e_pl4, e_eqB, e_depB, e_ok3, e_r2, e_r3, e_r0, e_for, e_i1, e_p2, e_n0, e_n4, e_ln0, e_ln1, Int.reduceEq, Int.reduceLT, Int.reduceLE, decide_false, Option.isSome_some, Option.isSome_none, Bool.or_self, Bool.true_or, ↓reduceIte, m_read_any]
  refine sp_term_at t _ _ [] [] _ _ _ _ (by simp) rfl h hd (by omega) (.inl rfl) ?_
  simp only [e_seq, e_next, e_ret, e_retN, e_if, e_asg, e_own, e_drop, e_c, e_var0, e_varS, e_op, e_test, e_and, e_or, e_not, e_andV, e_orV, e_notV, e_ifE, e_chain, e_nil, e_cons, e_tup, e_lst, e_cb, e_call, e_sl, e_part, e_noPart, e_items, e_rng1, e_lc, e_yes, e_fn, e_rho1, e_rho2, e_rho3, e_rho4, e_isi, e_ints, e_CT, e_lenS, e_lenT, e_lenL, e_addI, e_addS, e_addL, e_int, e_intB, e_ixT, e_ixL, e_ixS, e_at0, e_at1, e_at2, e_slT, e_slL, e_slS, e_tail, e_eqS, e_eqI, e_depS, e_depI, e_isiS, e_isiT, e_isiTT, e_isiTS, e_lcN, e_lcC, e_name, e_repl, e_inT, e_inL, e_inS, e_inTab, e_ixTab, e_is, e_isNot, e_eqv, e_nev, e_starts, D.bl.injEq, D.int.injEq, D.str.injEq, D.tup.injEq, exists_eq_left', exists_eq_left, true_and, and_true, and_self, if_true, if_false, ite_true, ite_false, Bool.false_eq_true, Bool.not_true, Bool.not_false, eq_self, List.set_cons_zero, List.set_cons_succ, List.getElem?_cons_zero, List.getElem?_cons_succ, List.length_cons, List.length_nil, List.replicate_zero, List.map_cons, List.map_nil, List.nil_append, List.cons_append, Nat.reduceAdd, Nat.zero_add, noOwn, wipeR, List.all_cons, List.all_nil, List.any_cons, List.any_nil, Bool.and_true, Bool.or_false, Bool.false_or, Bool.and_self, Bool.xor_false, Bool.false_xor, Bool.true_xor, decide_true, Option.some.injEq, e_itT, e_itL, e_itS, e_pl1, e_pl2, e_ty1, e_ty2, e_ok1, e_ok2, e_min, e_one, e_two, e_three, e_nnT, e_nnS, e_fl1, e_fl2, e_fl3, e_starts, e_st2, t_var_pair, t_var_box, t_var_half, t_var_shut, t_var_mark, t_var_mix, t_pair_var, t_pair_box, t_pair_half, t_pair_shut, t_pair_mark, t_pair_mix, t_box_var, t_box_pair, t_box_half, t_box_shut, t_box_mark, t_box_mix, t_half_var, t_half_pair, t_half_box, t_half_shut, t_half_mark, t_half_mix, t_shut_var, t_shut_pair, t_shut_box, t_shut_half, t_shut_mark, t_shut_mix, t_mark_var, t_mark_pair, t_mark_box, t_mark_half, t_mark_shut, t_mark_mix, t_mix_var, t_mix_pair, t_mix_box, t_mix_half, t_mix_shut, t_mix_mark, e_n2, e_n3, Int.reduceNeg, Bool.or_true, i_str_S, i_str_T, i_str_L, i_str_I, i_int_S, i_int_T, i_int_L, i_int_I, i_bool_S, i_bool_T, i_bool_L, i_bool_I, i_list_S, i_list_T, i_list_L, i_list_I, i_tuple_S, i_tuple_T, i_tuple_L, i_tuple_I, i_dict_S, i_dict_T, i_dict_L, i_dict_I, e_ty_int, e_ty_bool, e_ty_list, e_ty_dict, e_isi2, e_pl3, e_pl4, e_eqB, e_depB, e_ok3, e_r2, e_r3, e_r0, e_for, e_i1, e_p2, e_n0, e_n4, e_ln0, e_ln1, Int.reduceEq, Int.reduceLT, Int.reduceLE, decide_false, Option.isSome_some, Option.isSome_none, Bool.or_self, Bool.true_or, ↓reduceIte]
  refine sp_has_form h hd hs ?_
  simp only [e_seq, e_next, e_ret, e_retN, e_if, e_asg, e_own, e_drop, e_c, e_var0, e_varS, e_op, e_test, e_and, e_or, e_not, e_andV, e_orV, e_notV, e_ifE, e_chain, e_nil, e_cons, e_tup, e_lst, e_cb, e_call, e_sl, e_part, e_noPart, e_items, e_rng1, e_lc, e_yes, e_fn, e_rho1, e_rho2, e_rho3, e_rho4, e_isi, e_ints, e_CT, e_lenS, e_lenT, e_lenL, e_addI, e_addS, e_addL, e_int, e_intB, e_ixT, e_ixL, e_ixS, e_at0, e_at1, e_at2, e_slT, e_slL, e_slS, e_tail, e_eqS, e_eqI, e_depS, e_depI, e_isiS, e_isiT, e_isiTT, e_isiTS, e_lcN, e_lcC, e_name, e_repl, e_inT, e_inL, e_inS, e_inTab, e_ixTab, e_is, e_isNot, e_eqv, e_nev, e_starts, D.bl.injEq, D.int.injEq, D.str.injEq, D.tup.injEq, exists_eq_left', exists_eq_left, true_and, and_true, and_self, if_true, if_false, ite_true, ite_false, Bool.false_eq_true, Bool.not_true, Bool.not_false, eq_self, List.set_cons_zero, List.set_cons_succ, List.getElem?_cons_zero, List.getElem?_cons_succ, List.length_cons, List.length_nil, List.replicate_zero, List.map_cons, List.map_nil, List.nil_append, List.cons_append, Nat.reduceAdd, Nat.zero_add, noOwn, wipeR, List.all_cons, List.all_nil, List.any_cons, List.any_nil, Bool.and_true, Bool.or_false, Bool.false_or, Bool.and_self, Bool.xor_false, Bool.false_xor, Bool.true_xor, decide_true, Option.some.injEq, e_itT, e_itL, e_itS, e_pl1, e_pl2, e_ty1, e_ty2, e_ok1, e_ok2, e_min, e_one, e_two, e_three, e_nnT, e_nnS, e_fl1, e_fl2, e_fl3, e_starts, e_st2, t_var_pair, t_var_box, t_var_half, t_var_shut, t_var_mark, t_var_mix, t_pair_var, t_pair_box, t_pair_half, t_pair_shut, t_pair_mark, t_pair_mix, t_box_var, t_box_pair, t_box_half, t_box_shut, t_box_mark, t_box_mix, t_half_var, t_half_pair, t_half_box, t_half_shut, t_half_mark, t_half_mix, t_shut_var, t_shut_pair, t_shut_box, t_shut_half, t_shut_mark, t_shut_mix, t_mark_var, t_mark_pair, t_mark_box, t_mark_half, t_mark_shut, t_mark_mix, t_mix_var, t_mix_pair, t_mix_box, t_mix_half, t_mix_shut, t_mix_mark, e_n2, e_n3, Int.reduceNeg, Bool.or_true, i_str_S, i_str_T, i_str_L, i_str_I, i_int_S, i_int_T, i_int_L, i_int_I, i_bool_S, i_bool_T, i_bool_L, i_bool_I, i_list_S, i_list_T, i_list_L, i_list_I, i_tuple_S, i_tuple_T, i_tuple_L, i_tuple_I, i_dict_S, i_dict_T, i_dict_L, i_dict_I, e_ty_int, e_ty_bool, e_ty_list, e_ty_dict, e_isi2, e_pl3, e_pl4, e_eqB, e_depB, e_ok3, e_r2, e_r3, e_r0, e_for, e_i1, e_p2, e_n0, e_n4, e_ln0, e_ln1, Int.reduceEq, Int.reduceLT, Int.reduceLE, decide_false, Option.isSome_some, Option.isSome_none, Bool.or_self, Bool.true_or, ↓reduceIte]
  refine sp_m_spelled t _ _ _ h hd (by omega) ?_
  simp only [e_seq, e_next, e_ret, e_retN, e_if, e_asg, e_own, e_drop, e_c, e_var0, e_varS, e_op, e_test, e_and, e_or, e_not, e_andV, e_orV, e_notV, e_ifE, e_chain, e_nil, e_cons, e_tup, e_lst, e_cb, e_call, e_sl, e_part, e_noPart, e_items, e_rng1, e_lc, e_yes, e_fn, e_rho1, e_rho2, e_rho3, e_rho4, e_isi, e_ints, e_CT, e_lenS, e_lenT, e_lenL, e_addI, e_addS, e_addL, e_int, e_intB, e_ixT, e_ixL, e_ixS, e_at0, e_at1, e_at2, e_slT, e_slL, e_slS, e_tail, e_eqS, e_eqI, e_depS, e_depI, e_isiS, e_isiT, e_isiTT, e_isiTS, e_lcN, e_lcC, e_name, e_repl, e_inT, e_inL, e_inS, e_inTab, e_ixTab, e_is, e_isNot, e_eqv, e_nev, e_starts, D.bl.injEq, D.int.injEq, D.str.injEq, D.tup.injEq, exists_eq_left', exists_eq_left, true_and, and_true, and_self, if_true, if_false, ite_true, ite_false, Bool.false_eq_true, Bool.not_true, Bool.not_false, eq_self, List.set_cons_zero, List.set_cons_succ, List.getElem?_cons_zero, List.getElem?_cons_succ, List.length_cons, List.length_nil, List.replicate_zero, List.map_cons, List.map_nil, List.nil_append, List.cons_append, Nat.reduceAdd, Nat.zero_add, noOwn, wipeR, List.all_cons, List.all_nil, List.any_cons, List.any_nil, Bool.and_true, Bool.or_false, Bool.false_or, Bool.and_self, Bool.xor_false, Bool.false_xor, Bool.true_xor, decide_true, Option.some.injEq, e_itT, e_itL, e_itS, e_pl1, e_pl2, e_ty1, e_ty2, e_ok1, e_ok2, e_min, e_one, e_two, e_three, e_nnT, e_nnS, e_fl1, e_fl2, e_fl3, e_starts, e_st2, t_var_pair, t_var_box, t_var_half, t_var_shut, t_var_mark, t_var_mix, t_pair_var, t_pair_box, t_pair_half, t_pair_shut, t_pair_mark, t_pair_mix, t_box_var, t_box_pair, t_box_half, t_box_shut, t_box_mark, t_box_mix, t_half_var, t_half_pair, t_half_box, t_half_shut, t_half_mark, t_half_mix, t_shut_var, t_shut_pair, t_shut_box, t_shut_half, t_shut_mark, t_shut_mix, t_mark_var, t_mark_pair, t_mark_box, t_mark_half, t_mark_shut, t_mark_mix, t_mix_var, t_mix_pair, t_mix_box, t_mix_half, t_mix_shut, t_mix_mark, e_n2, e_n3, Int.reduceNeg, Bool.or_true, i_str_S, i_str_T, i_str_L, i_str_I, i_int_S, i_int_T, i_int_L, i_int_I, i_bool_S, i_bool_T, i_bool_L, i_bool_I, i_list_S, i_list_T, i_list_L, i_list_I, i_tuple_S, i_tuple_T, i_tuple_L, i_tuple_I, i_dict_S, i_dict_T, i_dict_L, i_dict_I, e_ty_int, e_ty_bool, e_ty_list, e_ty_dict, e_isi2, e_pl3, e_pl4, e_eqB, e_depB, e_ok3, e_r2, e_r3, e_r0, e_for, e_i1, e_p2, e_n0, e_n4, e_ln0, e_ln1, Int.reduceEq, Int.reduceLT, Int.reduceLE, decide_false, Option.isSome_some, Option.isSome_none, Bool.or_self, Bool.true_or, ↓reduceIte]
  exact q
theorem nn (t : Tm) : isNoneD t.d = false := by cases t <;> rfl
theorem sp_read_term {t : Tm} (h : t.ok) (hd : t.depth ≤ 12) (hs : t.size ≤ 40) (q : Q t.d) : m_read_term [.str (St t.wd)] Xd Q := by
  simp only [e_seq, e_next, e_ret, e_retN, e_if, e_asg, e_own, e_drop, e_c, e_var0, e_varS, e_op, e_test, e_and, e_or, e_not, e_andV, e_orV, e_notV, e_ifE, e_chain, e_nil, e_cons, e_tup, e_lst, e_cb, e_call, e_sl, e_part, e_noPart, e_items, e_rng1, e_lc, e_yes, e_fn, e_rho1, e_rho2, e_rho3, e_rho4, e_isi, e_ints, e_CT, e_lenS, e_lenT, e_lenL, e_addI, e_addS, e_addL, e_int, e_intB, e_ixT, e_ixL, e_ixS, e_at0, e_at1, e_at2, e_slT, e_slL, e_slS, e_tail, e_eqS, e_eqI, e_depS, e_depI, e_isiS, e_isiT, e_isiTT, e_isiTS, e_lcN, e_lcC, e_name, e_repl, e_inT, e_inL, e_inS, e_inTab, e_ixTab, e_is, e_isNot, e_eqv, e_nev, e_starts, D.bl.injEq, D.int.injEq, D.str.injEq, D.tup.injEq, exists_eq_left', exists_eq_left, true_and, and_true, and_self, if_true, if_false, ite_true, ite_false, Bool.false_eq_true, Bool.not_true, Bool.not_false, eq_self, List.set_cons_zero, List.set_cons_succ, List.getElem?_cons_zero, List.getElem?_cons_succ, List.length_cons, List.length_nil, List.replicate_zero, List.map_cons, List.map_nil, List.nil_append, List.cons_append, Nat.reduceAdd, Nat.zero_add, noOwn, wipeR, List.all_cons, List.all_nil, List.any_cons, List.any_nil, Bool.and_true, Bool.or_false, Bool.false_or, Bool.and_self, Bool.xor_false, Bool.false_xor, Bool.true_xor, decide_true, Option.some.injEq, e_itT, e_itL, e_itS, e_pl1, e_pl2, e_ty1, e_ty2, e_ok1, e_ok2, e_min, e_one, e_two, e_three, e_nnT, e_nnS, e_fl1, e_fl2, e_fl3, e_starts, e_st2, t_var_pair, t_var_box, t_var_half, t_var_shut, t_var_mark, t_var_mix, t_pair_var, t_pair_box, t_pair_half, t_pair_shut, t_pair_mark, t_pair_mix, t_box_var, t_box_pair, t_box_half, t_box_shut, t_box_mark, t_box_mix, t_half_var, t_half_pair, t_half_box, t_half_shut, t_half_mark, t_half_mix, t_shut_var, t_shut_pair, t_shut_box, t_shut_half, t_shut_mark, t_shut_mix, t_mark_var, t_mark_pair, t_mark_box, t_mark_half, t_mark_shut, t_mark_mix, t_mix_var, t_mix_pair, t_mix_box, t_mix_half, t_mix_shut, t_mix_mark, e_n2, e_n3, Int.reduceNeg, Bool.or_true, i_str_S, i_str_T, i_str_L, i_str_I, i_int_S, i_int_T, i_int_L, i_int_I, i_bool_S, i_bool_T, i_bool_L, i_bool_I, i_list_S, i_list_T, i_list_L, i_list_I, i_tuple_S, i_tuple_T, i_tuple_L, i_tuple_I, i_dict_S, i_dict_T, i_dict_L, i_dict_I, e_ty_int, e_ty_bool, e_ty_list, e_ty_dict, e_isi2, e_pl3, e_pl4, e_eqB, e_depB, e_ok3, e_r2, e_r3, e_r0, e_for, e_i1, e_p2, e_n0, e_n4, e_ln0, e_ln1, Int.reduceEq, Int.reduceLT, Int.reduceLE, decide_false, Option.isSome_some, Option.isSome_none, Bool.or_self, Bool.true_or, ↓reduceIte, m_read_term]
  refine sp_read_any h hd hs ?_
  simp only [e_seq, e_next, e_ret, e_retN, e_if, e_asg, e_own, e_drop, e_c, e_var0, e_varS, e_op, e_test, e_and, e_or, e_not, e_andV, e_orV, e_notV, e_ifE, e_chain, e_nil, e_cons, e_tup, e_lst, e_cb, e_call, e_sl, e_part, e_noPart, e_items, e_rng1, e_lc, e_yes, e_fn, e_rho1, e_rho2, e_rho3, e_rho4, e_isi, e_ints, e_CT, e_lenS, e_lenT, e_lenL, e_addI, e_addS, e_addL, e_int, e_intB, e_ixT, e_ixL, e_ixS, e_at0, e_at1, e_at2, e_slT, e_slL, e_slS, e_tail, e_eqS, e_eqI, e_depS, e_depI, e_isiS, e_isiT, e_isiTT, e_isiTS, e_lcN, e_lcC, e_name, e_repl, e_inT, e_inL, e_inS, e_inTab, e_ixTab, e_is, e_isNot, e_eqv, e_nev, e_starts, D.bl.injEq, D.int.injEq, D.str.injEq, D.tup.injEq, exists_eq_left', exists_eq_left, true_and, and_true, and_self, if_true, if_false, ite_true, ite_false, Bool.false_eq_true, Bool.not_true, Bool.not_false, eq_self, List.set_cons_zero, List.set_cons_succ, List.getElem?_cons_zero, List.getElem?_cons_succ, List.length_cons, List.length_nil, List.replicate_zero, List.map_cons, List.map_nil, List.nil_append, List.cons_append, Nat.reduceAdd, Nat.zero_add, noOwn, wipeR, List.all_cons, List.all_nil, List.any_cons, List.any_nil, Bool.and_true, Bool.or_false, Bool.false_or, Bool.and_self, Bool.xor_false, Bool.false_xor, Bool.true_xor, decide_true, Option.some.injEq, e_itT, e_itL, e_itS, e_pl1, e_pl2, e_ty1, e_ty2, e_ok1, e_ok2, e_min, e_one, e_two, e_three, e_nnT, e_nnS, e_fl1, e_fl2, e_fl3, e_starts, e_st2, t_var_pair, t_var_box, t_var_half, t_var_shut, t_var_mark, t_var_mix, t_pair_var, t_pair_box, t_pair_half, t_pair_shut, t_pair_mark, t_pair_mix, t_box_var, t_box_pair, t_box_half, t_box_shut, t_box_mark, t_box_mix, t_half_var, t_half_pair, t_half_box, t_half_shut, t_half_mark, t_half_mix, t_shut_var, t_shut_pair, t_shut_box, t_shut_half, t_shut_mark, t_shut_mix, t_mark_var, t_mark_pair, t_mark_box, t_mark_half, t_mark_shut, t_mark_mix, t_mix_var, t_mix_pair, t_mix_box, t_mix_half, t_mix_shut, t_mix_mark, e_n2, e_n3, Int.reduceNeg, Bool.or_true, i_str_S, i_str_T, i_str_L, i_str_I, i_int_S, i_int_T, i_int_L, i_int_I, i_bool_S, i_bool_T, i_bool_L, i_bool_I, i_list_S, i_list_T, i_list_L, i_list_I, i_tuple_S, i_tuple_T, i_tuple_L, i_tuple_I, i_dict_S, i_dict_T, i_dict_L, i_dict_I, e_ty_int, e_ty_bool, e_ty_list, e_ty_dict, e_isi2, e_pl3, e_pl4, e_eqB, e_depB, e_ok3, e_r2, e_r3, e_r0, e_for, e_i1, e_p2, e_n0, e_n4, e_ln0, e_ln1, Int.reduceEq, Int.reduceLT, Int.reduceLE, decide_false, Option.isSome_some, Option.isSome_none, Bool.or_self, Bool.true_or, ↓reduceIte, nn t]
  exact q
end
end K04
namespace K04
open PySem PyProof.Rows HD
section
variable {Xd : Err → Prop} {Q : D → Prop}
theorem sp_same_str {s : Str} {n : Nat} {Xd : Err → Prop} {Q : D → Prop} (q : Q (.bl true)) : m_law_same (n + 1) [.str s, .str s] Xd Q := by
  simp only [e_seq, e_next, e_ret, e_retN, e_if, e_asg, e_own, e_drop, e_c, e_var0, e_varS, e_op, e_test, e_and, e_or, e_not, e_andV, e_orV, e_notV, e_ifE, e_chain, e_nil, e_cons, e_tup, e_lst, e_cb, e_call, e_sl, e_part, e_noPart, e_items, e_rng1, e_lc, e_yes, e_fn, e_rho1, e_rho2, e_rho3, e_rho4, e_isi, e_ints, e_CT, e_lenS, e_lenT, e_lenL, e_addI, e_addS, e_addL, e_int, e_intB, e_ixT, e_ixL, e_ixS, e_at0, e_at1, e_at2, e_slT, e_slL, e_slS, e_tail, e_eqS, e_eqI, e_depS, e_depI, e_isiS, e_isiT, e_isiTT, e_isiTS, e_lcN, e_lcC, e_name, e_repl, e_inT, e_inL, e_inS, e_inTab, e_ixTab, e_is, e_isNot, e_eqv, e_nev, e_starts, D.bl.injEq, D.int.injEq, D.str.injEq, D.tup.injEq, exists_eq_left', exists_eq_left, true_and, and_true, and_self, if_true, if_false, ite_true, ite_false, Bool.false_eq_true, Bool.not_true, Bool.not_false, eq_self, List.set_cons_zero, List.set_cons_succ, List.getElem?_cons_zero, List.getElem?_cons_succ, List.length_cons, List.length_nil, List.replicate_zero, List.map_cons, List.map_nil, List.nil_append, List.cons_append, Nat.reduceAdd, Nat.zero_add, noOwn, wipeR, List.all_cons, List.all_nil, List.any_cons, List.any_nil, Bool.and_true, Bool.or_false, Bool.false_or, Bool.and_self, Bool.xor_false, Bool.false_xor, Bool.true_xor, decide_true, Option.some.injEq, e_itT, e_itL, e_itS, e_pl1, e_pl2, e_ty1, e_ty2, e_ok1, e_ok2, e_min, e_one, e_two, e_three, e_nnT, e_nnS, e_fl1, e_fl2, e_fl3, e_starts, e_st2, t_var_pair, t_var_box, t_var_half, t_var_shut, t_var_mark, t_var_mix, t_pair_var, t_pair_box, t_pair_half, t_pair_shut, t_pair_mark, t_pair_mix, t_box_var, t_box_pair, t_box_half, t_box_shut, t_box_mark, t_box_mix, t_half_var, t_half_pair, t_half_box, t_half_shut, t_half_mark, t_half_mix, t_shut_var, t_shut_pair, t_shut_box, t_shut_half, t_shut_mark, t_shut_mix, t_mark_var, t_mark_pair, t_mark_box, t_mark_half, t_mark_shut, t_mark_mix, t_mix_var, t_mix_pair, t_mix_box, t_mix_half, t_mix_shut, t_mix_mark, e_n2, e_n3, Int.reduceNeg, Bool.or_true, i_str_S, i_str_T, i_str_L, i_str_I, i_int_S, i_int_T, i_int_L, i_int_I, i_bool_S, i_bool_T, i_bool_L, i_bool_I, i_list_S, i_list_T, i_list_L, i_list_I, i_tuple_S, i_tuple_T, i_tuple_L, i_tuple_I, i_dict_S, i_dict_T, i_dict_L, i_dict_I, e_ty_int, e_ty_bool, e_ty_list, e_ty_dict, e_isi2, e_pl3, e_pl4, e_eqB, e_depB, e_ok3, e_r2, e_r3, e_r0, e_for, e_i1, e_p2, e_n0, e_n4, e_ln0, e_ln1, Int.reduceEq, Int.reduceLT, Int.reduceLE, decide_false, Option.isSome_some, Option.isSome_none, Bool.or_self, Bool.true_or, ↓reduceIte, m_law_same]
  exact q
theorem same3 {n : Nat} {x y z : D} {Xd : Err → Prop} {Q : D → Prop} (hx : ∀ (Xd : Err → Prop) (Q : D → Prop), Q (.bl true) → m_law_same n [x, x] Xd Q) (hy : ∀ (Xd : Err → Prop) (Q : D → Prop), Q (.bl true) → m_law_same n [y, y] Xd Q) (hz : ∀ (Xd : Err → Prop) (Q : D → Prop), Q (.bl true) → m_law_same n [z, z] Xd Q) (q : Q (.bl true)) : m_law_same (n + 1) [.tup [x, y, z], .tup [x, y, z]] Xd Q := by
  simp only [e_seq, e_next, e_ret, e_retN, e_if, e_asg, e_own, e_drop, e_c, e_var0, e_varS, e_op, e_test, e_and, e_or, e_not, e_andV, e_orV, e_notV, e_ifE, e_chain, e_nil, e_cons, e_tup, e_lst, e_cb, e_call, e_sl, e_part, e_noPart, e_items, e_rng1, e_lc, e_yes, e_fn, e_rho1, e_rho2, e_rho3, e_rho4, e_isi, e_ints, e_CT, e_lenS, e_lenT, e_lenL, e_addI, e_addS, e_addL, e_int, e_intB, e_ixT, e_ixL, e_ixS, e_at0, e_at1, e_at2, e_slT, e_slL, e_slS, e_tail, e_eqS, e_eqI, e_depS, e_depI, e_isiS, e_isiT, e_isiTT, e_isiTS, e_lcN, e_lcC, e_name, e_repl, e_inT, e_inL, e_inS, e_inTab, e_ixTab, e_is, e_isNot, e_eqv, e_nev, e_starts, D.bl.injEq, D.int.injEq, D.str.injEq, D.tup.injEq, exists_eq_left', exists_eq_left, true_and, and_true, and_self, if_true, if_false, ite_true, ite_false, Bool.false_eq_true, Bool.not_true, Bool.not_false, eq_self, List.set_cons_zero, List.set_cons_succ, List.getElem?_cons_zero, List.getElem?_cons_succ, List.length_cons, List.length_nil, List.replicate_zero, List.map_cons, List.map_nil, List.nil_append, List.cons_append, Nat.reduceAdd, Nat.zero_add, noOwn, wipeR, List.all_cons, List.all_nil, List.any_cons, List.any_nil, Bool.and_true, Bool.or_false, Bool.false_or, Bool.and_self, Bool.xor_false, Bool.false_xor, Bool.true_xor, decide_true, Option.some.injEq, e_itT, e_itL, e_itS, e_pl1, e_pl2, e_ty1, e_ty2, e_ok1, e_ok2, e_min, e_one, e_two, e_three, e_nnT, e_nnS, e_fl1, e_fl2, e_fl3, e_starts, e_st2, t_var_pair, t_var_box, t_var_half, t_var_shut, t_var_mark, t_var_mix, t_pair_var, t_pair_box, t_pair_half, t_pair_shut, t_pair_mark, t_pair_mix, t_box_var, t_box_pair, t_box_half, t_box_shut, t_box_mark, t_box_mix, t_half_var, t_half_pair, t_half_box, t_half_shut, t_half_mark, t_half_mix, t_shut_var, t_shut_pair, t_shut_box, t_shut_half, t_shut_mark, t_shut_mix, t_mark_var, t_mark_pair, t_mark_box, t_mark_half, t_mark_shut, t_mark_mix, t_mix_var, t_mix_pair, t_mix_box, t_mix_half, t_mix_shut, t_mix_mark, e_n2, e_n3, Int.reduceNeg, Bool.or_true, i_str_S, i_str_T, i_str_L, i_str_I, i_int_S, i_int_T, i_int_L, i_int_I, i_bool_S, i_bool_T, i_bool_L, i_bool_I, i_list_S, i_list_T, i_list_L, i_list_I, i_tuple_S, i_tuple_T, i_tuple_L, i_tuple_I, i_dict_S, i_dict_T, i_dict_L, i_dict_I, e_ty_int, e_ty_bool, e_ty_list, e_ty_dict, e_isi2, e_pl3, e_pl4, e_eqB, e_depB, e_ok3, e_r2, e_r3, e_r0, e_for, e_i1, e_p2, e_n0, e_n4, e_ln0, e_ln1, Int.reduceEq, Int.reduceLT, Int.reduceLE, decide_false, Option.isSome_some, Option.isSome_none, Bool.or_self, Bool.true_or, ↓reduceIte, m_law_same]
  refine hx _ _ ?_
  simp only [e_seq, e_next, e_ret, e_retN, e_if, e_asg, e_own, e_drop, e_c, e_var0, e_varS, e_op, e_test, e_and, e_or, e_not, e_andV, e_orV, e_notV, e_ifE, e_chain, e_nil, e_cons, e_tup, e_lst, e_cb, e_call, e_sl, e_part, e_noPart, e_items, e_rng1, e_lc, e_yes, e_fn, e_rho1, e_rho2, e_rho3, e_rho4, e_isi, e_ints, e_CT, e_lenS, e_lenT, e_lenL, e_addI, e_addS, e_addL, e_int, e_intB, e_ixT, e_ixL, e_ixS, e_at0, e_at1, e_at2, e_slT, e_slL, e_slS, e_tail, e_eqS, e_eqI, e_depS, e_depI, e_isiS, e_isiT, e_isiTT, e_isiTS, e_lcN, e_lcC, e_name, e_repl, e_inT, e_inL, e_inS, e_inTab, e_ixTab, e_is, e_isNot, e_eqv, e_nev, e_starts, D.bl.injEq, D.int.injEq, D.str.injEq, D.tup.injEq, exists_eq_left', exists_eq_left, true_and, and_true, and_self, if_true, if_false, ite_true, ite_false, Bool.false_eq_true, Bool.not_true, Bool.not_false, eq_self, List.set_cons_zero, List.set_cons_succ, List.getElem?_cons_zero, List.getElem?_cons_succ, List.length_cons, List.length_nil, List.replicate_zero, List.map_cons, List.map_nil, List.nil_append, List.cons_append, Nat.reduceAdd, Nat.zero_add, noOwn, wipeR, List.all_cons, List.all_nil, List.any_cons, List.any_nil, Bool.and_true, Bool.or_false, Bool.false_or, Bool.and_self, Bool.xor_false, Bool.false_xor, Bool.true_xor, decide_true, Option.some.injEq, e_itT, e_itL, e_itS, e_pl1, e_pl2, e_ty1, e_ty2, e_ok1, e_ok2, e_min, e_one, e_two, e_three, e_nnT, e_nnS, e_fl1, e_fl2, e_fl3, e_starts, e_st2, t_var_pair, t_var_box, t_var_half, t_var_shut, t_var_mark, t_var_mix, t_pair_var, t_pair_box, t_pair_half, t_pair_shut, t_pair_mark, t_pair_mix, t_box_var, t_box_pair, t_box_half, t_box_shut, t_box_mark, t_box_mix, t_half_var, t_half_pair, t_half_box, t_half_shut, t_half_mark, t_half_mix, t_shut_var, t_shut_pair, t_shut_box, t_shut_half, t_shut_mark, t_shut_mix, t_mark_var, t_mark_pair, t_mark_box, t_mark_half, t_mark_shut, t_mark_mix, t_mix_var, t_mix_pair, t_mix_box, t_mix_half, t_mix_shut, t_mix_mark, e_n2, e_n3, Int.reduceNeg, Bool.or_true, i_str_S, i_str_T, i_str_L, i_str_I, i_int_S, i_int_T, i_int_L, i_int_I, i_bool_S, i_bool_T, i_bool_L, i_bool_I, i_list_S, i_list_T, i_list_L, i_list_I, i_tuple_S, i_tuple_T, i_tuple_L, i_tuple_I, i_dict_S, i_dict_T, i_dict_L, i_dict_I, e_ty_int, e_ty_bool, e_ty_list, e_ty_dict, e_isi2, e_pl3, e_pl4, e_eqB, e_depB, e_ok3, e_r2, e_r3, e_r0, e_for, e_i1, e_p2, e_n0, e_n4, e_ln0, e_ln1, Int.reduceEq, Int.reduceLT, Int.reduceLE, decide_false, Option.isSome_some, Option.isSome_none, Bool.or_self, Bool.true_or, ↓reduceIte]
  refine hy _ _ ?_
  simp only [e_seq, e_next, e_ret, e_retN, e_if, e_asg, e_own, e_drop, e_c, e_var0, e_varS, e_op, e_test, e_and, e_or, e_not, e_andV, e_orV, e_notV, e_ifE, e_chain, e_nil, e_cons, e_tup, e_lst, e_cb, e_call, e_sl, e_part, e_noPart, e_items, e_rng1, e_lc, e_yes, e_fn, e_rho1, e_rho2, e_rho3, e_rho4, e_isi, e_ints, e_CT, e_lenS, e_lenT, e_lenL, e_addI, e_addS, e_addL, e_int, e_intB, e_ixT, e_ixL, e_ixS, e_at0, e_at1, e_at2, e_slT, e_slL, e_slS, e_tail, e_eqS, e_eqI, e_depS, e_depI, e_isiS, e_isiT, e_isiTT, e_isiTS, e_lcN, e_lcC, e_name, e_repl, e_inT, e_inL, e_inS, e_inTab, e_ixTab, e_is, e_isNot, e_eqv, e_nev, e_starts, D.bl.injEq, D.int.injEq, D.str.injEq, D.tup.injEq, exists_eq_left', exists_eq_left, true_and, and_true, and_self, if_true, if_false, ite_true, ite_false, Bool.false_eq_true, Bool.not_true, Bool.not_false, eq_self, List.set_cons_zero, List.set_cons_succ, List.getElem?_cons_zero, List.getElem?_cons_succ, List.length_cons, List.length_nil, List.replicate_zero, List.map_cons, List.map_nil, List.nil_append, List.cons_append, Nat.reduceAdd, Nat.zero_add, noOwn, wipeR, List.all_cons, List.all_nil, List.any_cons, List.any_nil, Bool.and_true, Bool.or_false, Bool.false_or, Bool.and_self, Bool.xor_false, Bool.false_xor, Bool.true_xor, decide_true, Option.some.injEq, e_itT, e_itL, e_itS, e_pl1, e_pl2, e_ty1, e_ty2, e_ok1, e_ok2, e_min, e_one, e_two, e_three, e_nnT, e_nnS, e_fl1, e_fl2, e_fl3, e_starts, e_st2, t_var_pair, t_var_box, t_var_half, t_var_shut, t_var_mark, t_var_mix, t_pair_var, t_pair_box, t_pair_half, t_pair_shut, t_pair_mark, t_pair_mix, t_box_var, t_box_pair, t_box_half, t_box_shut, t_box_mark, t_box_mix, t_half_var, t_half_pair, t_half_box, t_half_shut, t_half_mark, t_half_mix, t_shut_var, t_shut_pair, t_shut_box, t_shut_half, t_shut_mark, t_shut_mix, t_mark_var, t_mark_pair, t_mark_box, t_mark_half, t_mark_shut, t_mark_mix, t_mix_var, t_mix_pair, t_mix_box, t_mix_half, t_mix_shut, t_mix_mark, e_n2, e_n3, Int.reduceNeg, Bool.or_true, i_str_S, i_str_T, i_str_L, i_str_I, i_int_S, i_int_T, i_int_L, i_int_I, i_bool_S, i_bool_T, i_bool_L, i_bool_I, i_list_S, i_list_T, i_list_L, i_list_I, i_tuple_S, i_tuple_T, i_tuple_L, i_tuple_I, i_dict_S, i_dict_T, i_dict_L, i_dict_I, e_ty_int, e_ty_bool, e_ty_list, e_ty_dict, e_isi2, e_pl3, e_pl4, e_eqB, e_depB, e_ok3, e_r2, e_r3, e_r0, e_for, e_i1, e_p2, e_n0, e_n4, e_ln0, e_ln1, Int.reduceEq, Int.reduceLT, Int.reduceLE, decide_false, Option.isSome_some, Option.isSome_none, Bool.or_self, Bool.true_or, ↓reduceIte]
  refine hz _ _ ?_
  simp only [e_seq, e_next, e_ret, e_retN, e_if, e_asg, e_own, e_drop, e_c, e_var0, e_varS, e_op, e_test, e_and, e_or, e_not, e_andV, e_orV, e_notV, e_ifE, e_chain, e_nil, e_cons, e_tup, e_lst, e_cb, e_call, e_sl, e_part, e_noPart, e_items, e_rng1, e_lc, e_yes, e_fn, e_rho1, e_rho2, e_rho3, e_rho4, e_isi, e_ints, e_CT, e_lenS, e_lenT, e_lenL, e_addI, e_addS, e_addL, e_int, e_intB, e_ixT, e_ixL, e_ixS, e_at0, e_at1, e_at2, e_slT, e_slL, e_slS, e_tail, e_eqS, e_eqI, e_depS, e_depI, e_isiS, e_isiT, e_isiTT, e_isiTS, e_lcN, e_lcC, e_name, e_repl, e_inT, e_inL, e_inS, e_inTab, e_ixTab, e_is, e_isNot, e_eqv, e_nev, e_starts, D.bl.injEq, D.int.injEq, D.str.injEq, D.tup.injEq, exists_eq_left', exists_eq_left, true_and, and_true, and_self, if_true, if_false, ite_true, ite_false, Bool.false_eq_true, Bool.not_true, Bool.not_false, eq_self, List.set_cons_zero, List.set_cons_succ, List.getElem?_cons_zero, List.getElem?_cons_succ, List.length_cons, List.length_nil, List.replicate_zero, List.map_cons, List.map_nil, List.nil_append, List.cons_append, Nat.reduceAdd, Nat.zero_add, noOwn, wipeR, List.all_cons, List.all_nil, List.any_cons, List.any_nil, Bool.and_true, Bool.or_false, Bool.false_or, Bool.and_self, Bool.xor_false, Bool.false_xor, Bool.true_xor, decide_true, Option.some.injEq, e_itT, e_itL, e_itS, e_pl1, e_pl2, e_ty1, e_ty2, e_ok1, e_ok2, e_min, e_one, e_two, e_three, e_nnT, e_nnS, e_fl1, e_fl2, e_fl3, e_starts, e_st2, t_var_pair, t_var_box, t_var_half, t_var_shut, t_var_mark, t_var_mix, t_pair_var, t_pair_box, t_pair_half, t_pair_shut, t_pair_mark, t_pair_mix, t_box_var, t_box_pair, t_box_half, t_box_shut, t_box_mark, t_box_mix, t_half_var, t_half_pair, t_half_box, t_half_shut, t_half_mark, t_half_mix, t_shut_var, t_shut_pair, t_shut_box, t_shut_half, t_shut_mark, t_shut_mix, t_mark_var, t_mark_pair, t_mark_box, t_mark_half, t_mark_shut, t_mark_mix, t_mix_var, t_mix_pair, t_mix_box, t_mix_half, t_mix_shut, t_mix_mark, e_n2, e_n3, Int.reduceNeg, Bool.or_true, i_str_S, i_str_T, i_str_L, i_str_I, i_int_S, i_int_T, i_int_L, i_int_I, i_bool_S, i_bool_T, i_bool_L, i_bool_I, i_list_S, i_list_T, i_list_L, i_list_I, i_tuple_S, i_tuple_T, i_tuple_L, i_tuple_I, i_dict_S, i_dict_T, i_dict_L, i_dict_I, e_ty_int, e_ty_bool, e_ty_list, e_ty_dict, e_isi2, e_pl3, e_pl4, e_eqB, e_depB, e_ok3, e_r2, e_r3, e_r0, e_for, e_i1, e_p2, e_n0, e_n4, e_ln0, e_ln1, Int.reduceEq, Int.reduceLT, Int.reduceLE, decide_false, Option.isSome_some, Option.isSome_none, Bool.or_self, Bool.true_or, ↓reduceIte]
  exact q
theorem same2 {n : Nat} {x y : D} {Xd : Err → Prop} {Q : D → Prop} (hx : ∀ (Xd : Err → Prop) (Q : D → Prop), Q (.bl true) → m_law_same n [x, x] Xd Q) (hy : ∀ (Xd : Err → Prop) (Q : D → Prop), Q (.bl true) → m_law_same n [y, y] Xd Q) (q : Q (.bl true)) : m_law_same (n + 1) [.tup [x, y], .tup [x, y]] Xd Q := by
  simp only [e_seq, e_next, e_ret, e_retN, e_if, e_asg, e_own, e_drop, e_c, e_var0, e_varS, e_op, e_test, e_and, e_or, e_not, e_andV, e_orV, e_notV, e_ifE, e_chain, e_nil, e_cons, e_tup, e_lst, e_cb, e_call, e_sl, e_part, e_noPart, e_items, e_rng1, e_lc, e_yes, e_fn, e_rho1, e_rho2, e_rho3, e_rho4, e_isi, e_ints, e_CT, e_lenS, e_lenT, e_lenL, e_addI, e_addS, e_addL, e_int, e_intB, e_ixT, e_ixL, e_ixS, e_at0, e_at1, e_at2, e_slT, e_slL, e_slS, e_tail, e_eqS, e_eqI, e_depS, e_depI, e_isiS, e_isiT, e_isiTT, e_isiTS, e_lcN, e_lcC, e_name, e_repl, e_inT, e_inL, e_inS, e_inTab, e_ixTab, e_is, e_isNot, e_eqv, e_nev, e_starts, D.bl.injEq, D.int.injEq, D.str.injEq, D.tup.injEq, exists_eq_left', exists_eq_left, true_and, and_true, and_self, if_true, if_false, ite_true, ite_false, Bool.false_eq_true, Bool.not_true, Bool.not_false, eq_self, List.set_cons_zero, List.set_cons_succ, List.getElem?_cons_zero, List.getElem?_cons_succ, List.length_cons, List.length_nil, List.replicate_zero, List.map_cons, List.map_nil, List.nil_append, List.cons_append, Nat.reduceAdd, Nat.zero_add, noOwn, wipeR, List.all_cons, List.all_nil, List.any_cons, List.any_nil, Bool.and_true, Bool.or_false, Bool.false_or, Bool.and_self, Bool.xor_false, Bool.false_xor, Bool.true_xor, decide_true, Option.some.injEq, e_itT, e_itL, e_itS, e_pl1, e_pl2, e_ty1, e_ty2, e_ok1, e_ok2, e_min, e_one, e_two, e_three, e_nnT, e_nnS, e_fl1, e_fl2, e_fl3, e_starts, e_st2, t_var_pair, t_var_box, t_var_half, t_var_shut, t_var_mark, t_var_mix, t_pair_var, t_pair_box, t_pair_half, t_pair_shut, t_pair_mark, t_pair_mix, t_box_var, t_box_pair, t_box_half, t_box_shut, t_box_mark, t_box_mix, t_half_var, t_half_pair, t_half_box, t_half_shut, t_half_mark, t_half_mix, t_shut_var, t_shut_pair, t_shut_box, t_shut_half, t_shut_mark, t_shut_mix, t_mark_var, t_mark_pair, t_mark_box, t_mark_half, t_mark_shut, t_mark_mix, t_mix_var, t_mix_pair, t_mix_box, t_mix_half, t_mix_shut, t_mix_mark, e_n2, e_n3, Int.reduceNeg, Bool.or_true, i_str_S, i_str_T, i_str_L, i_str_I, i_int_S, i_int_T, i_int_L, i_int_I, i_bool_S, i_bool_T, i_bool_L, i_bool_I, i_list_S, i_list_T, i_list_L, i_list_I, i_tuple_S, i_tuple_T, i_tuple_L, i_tuple_I, i_dict_S, i_dict_T, i_dict_L, i_dict_I, e_ty_int, e_ty_bool, e_ty_list, e_ty_dict, e_isi2, e_pl3, e_pl4, e_eqB, e_depB, e_ok3, e_r2, e_r3, e_r0, e_for, e_i1, e_p2, e_n0, e_n4, e_ln0, e_ln1, Int.reduceEq, Int.reduceLT, Int.reduceLE, decide_false, Option.isSome_some, Option.isSome_none, Bool.or_self, Bool.true_or, ↓reduceIte, m_law_same]
  refine hx _ _ ?_
  simp only [e_seq, e_next, e_ret, e_retN, e_if, e_asg, e_own, e_drop, e_c, e_var0, e_varS, e_op, e_test, e_and, e_or, e_not, e_andV, e_orV, e_notV, e_ifE, e_chain, e_nil, e_cons, e_tup, e_lst, e_cb, e_call, e_sl, e_part, e_noPart, e_items, e_rng1, e_lc, e_yes, e_fn, e_rho1, e_rho2, e_rho3, e_rho4, e_isi, e_ints, e_CT, e_lenS, e_lenT, e_lenL, e_addI, e_addS, e_addL, e_int, e_intB, e_ixT, e_ixL, e_ixS, e_at0, e_at1, e_at2, e_slT, e_slL, e_slS, e_tail, e_eqS, e_eqI, e_depS, e_depI, e_isiS, e_isiT, e_isiTT, e_isiTS, e_lcN, e_lcC, e_name, e_repl, e_inT, e_inL, e_inS, e_inTab, e_ixTab, e_is, e_isNot, e_eqv, e_nev, e_starts, D.bl.injEq, D.int.injEq, D.str.injEq, D.tup.injEq, exists_eq_left', exists_eq_left, true_and, and_true, and_self, if_true, if_false, ite_true, ite_false, Bool.false_eq_true, Bool.not_true, Bool.not_false, eq_self, List.set_cons_zero, List.set_cons_succ, List.getElem?_cons_zero, List.getElem?_cons_succ, List.length_cons, List.length_nil, List.replicate_zero, List.map_cons, List.map_nil, List.nil_append, List.cons_append, Nat.reduceAdd, Nat.zero_add, noOwn, wipeR, List.all_cons, List.all_nil, List.any_cons, List.any_nil, Bool.and_true, Bool.or_false, Bool.false_or, Bool.and_self, Bool.xor_false, Bool.false_xor, Bool.true_xor, decide_true, Option.some.injEq, e_itT, e_itL, e_itS, e_pl1, e_pl2, e_ty1, e_ty2, e_ok1, e_ok2, e_min, e_one, e_two, e_three, e_nnT, e_nnS, e_fl1, e_fl2, e_fl3, e_starts, e_st2, t_var_pair, t_var_box, t_var_half, t_var_shut, t_var_mark, t_var_mix, t_pair_var, t_pair_box, t_pair_half, t_pair_shut, t_pair_mark, t_pair_mix, t_box_var, t_box_pair, t_box_half, t_box_shut, t_box_mark, t_box_mix, t_half_var, t_half_pair, t_half_box, t_half_shut, t_half_mark, t_half_mix, t_shut_var, t_shut_pair, t_shut_box, t_shut_half, t_shut_mark, t_shut_mix, t_mark_var, t_mark_pair, t_mark_box, t_mark_half, t_mark_shut, t_mark_mix, t_mix_var, t_mix_pair, t_mix_box, t_mix_half, t_mix_shut, t_mix_mark, e_n2, e_n3, Int.reduceNeg, Bool.or_true, i_str_S, i_str_T, i_str_L, i_str_I, i_int_S, i_int_T, i_int_L, i_int_I, i_bool_S, i_bool_T, i_bool_L, i_bool_I, i_list_S, i_list_T, i_list_L, i_list_I, i_tuple_S, i_tuple_T, i_tuple_L, i_tuple_I, i_dict_S, i_dict_T, i_dict_L, i_dict_I, e_ty_int, e_ty_bool, e_ty_list, e_ty_dict, e_isi2, e_pl3, e_pl4, e_eqB, e_depB, e_ok3, e_r2, e_r3, e_r0, e_for, e_i1, e_p2, e_n0, e_n4, e_ln0, e_ln1, Int.reduceEq, Int.reduceLT, Int.reduceLE, decide_false, Option.isSome_some, Option.isSome_none, Bool.or_self, Bool.true_or, ↓reduceIte]
  refine hy _ _ ?_
  simp only [e_seq, e_next, e_ret, e_retN, e_if, e_asg, e_own, e_drop, e_c, e_var0, e_varS, e_op, e_test, e_and, e_or, e_not, e_andV, e_orV, e_notV, e_ifE, e_chain, e_nil, e_cons, e_tup, e_lst, e_cb, e_call, e_sl, e_part, e_noPart, e_items, e_rng1, e_lc, e_yes, e_fn, e_rho1, e_rho2, e_rho3, e_rho4, e_isi, e_ints, e_CT, e_lenS, e_lenT, e_lenL, e_addI, e_addS, e_addL, e_int, e_intB, e_ixT, e_ixL, e_ixS, e_at0, e_at1, e_at2, e_slT, e_slL, e_slS, e_tail, e_eqS, e_eqI, e_depS, e_depI, e_isiS, e_isiT, e_isiTT, e_isiTS, e_lcN, e_lcC, e_name, e_repl, e_inT, e_inL, e_inS, e_inTab, e_ixTab, e_is, e_isNot, e_eqv, e_nev, e_starts, D.bl.injEq, D.int.injEq, D.str.injEq, D.tup.injEq, exists_eq_left', exists_eq_left, true_and, and_true, and_self, if_true, if_false, ite_true, ite_false, Bool.false_eq_true, Bool.not_true, Bool.not_false, eq_self, List.set_cons_zero, List.set_cons_succ, List.getElem?_cons_zero, List.getElem?_cons_succ, List.length_cons, List.length_nil, List.replicate_zero, List.map_cons, List.map_nil, List.nil_append, List.cons_append, Nat.reduceAdd, Nat.zero_add, noOwn, wipeR, List.all_cons, List.all_nil, List.any_cons, List.any_nil, Bool.and_true, Bool.or_false, Bool.false_or, Bool.and_self, Bool.xor_false, Bool.false_xor, Bool.true_xor, decide_true, Option.some.injEq, e_itT, e_itL, e_itS, e_pl1, e_pl2, e_ty1, e_ty2, e_ok1, e_ok2, e_min, e_one, e_two, e_three, e_nnT, e_nnS, e_fl1, e_fl2, e_fl3, e_starts, e_st2, t_var_pair, t_var_box, t_var_half, t_var_shut, t_var_mark, t_var_mix, t_pair_var, t_pair_box, t_pair_half, t_pair_shut, t_pair_mark, t_pair_mix, t_box_var, t_box_pair, t_box_half, t_box_shut, t_box_mark, t_box_mix, t_half_var, t_half_pair, t_half_box, t_half_shut, t_half_mark, t_half_mix, t_shut_var, t_shut_pair, t_shut_box, t_shut_half, t_shut_mark, t_shut_mix, t_mark_var, t_mark_pair, t_mark_box, t_mark_half, t_mark_shut, t_mark_mix, t_mix_var, t_mix_pair, t_mix_box, t_mix_half, t_mix_shut, t_mix_mark, e_n2, e_n3, Int.reduceNeg, Bool.or_true, i_str_S, i_str_T, i_str_L, i_str_I, i_int_S, i_int_T, i_int_L, i_int_I, i_bool_S, i_bool_T, i_bool_L, i_bool_I, i_list_S, i_list_T, i_list_L, i_list_I, i_tuple_S, i_tuple_T, i_tuple_L, i_tuple_I, i_dict_S, i_dict_T, i_dict_L, i_dict_I, e_ty_int, e_ty_bool, e_ty_list, e_ty_dict, e_isi2, e_pl3, e_pl4, e_eqB, e_depB, e_ok3, e_r2, e_r3, e_r0, e_for, e_i1, e_p2, e_n0, e_n4, e_ln0, e_ln1, Int.reduceEq, Int.reduceLT, Int.reduceLE, decide_false, Option.isSome_some, Option.isSome_none, Bool.or_self, Bool.true_or, ↓reduceIte]
  exact q
theorem sp_same : ∀ (t : Tm) (n : Nat) (Xd : Err → Prop) (Q : D → Prop), t.depth + 1 ≤ n → Q (.bl true) → m_law_same n [t.d, t.d] Xd Q
  | t, 0, Xd, Q, hn, q => by
    have := Tm.dpos t
    omega
  | t, 1, Xd, Q, hn, q => by
    have := Tm.dpos t
    omega
  | .nm s, n + 2, Xd, Q, hn, q => sp_same_str q
  | .pair a b, n + 2, Xd, Q, hn, q => by
    simp only [Tm.depth] at hn
    exact same3 (fun _ _ q => sp_same_str q) (fun _ _ q => sp_same a _ _ _ (by omega) q) (fun _ _ q => sp_same b _ _ _ (by omega) q) q
  | .box a b, n + 2, Xd, Q, hn, q => by
    simp only [Tm.depth] at hn
    exact same3 (fun _ _ q => sp_same_str q) (fun _ _ q => sp_same a _ _ _ (by omega) q) (fun _ _ q => sp_same b _ _ _ (by omega) q) q
  | .half s, n + 2, Xd, Q, hn, q => same2 (fun _ _ q => sp_same_str q) (fun _ _ q => sp_same_str q) q
  | .shut s a, n + 2, Xd, Q, hn, q => by
    simp only [Tm.depth] at hn
    exact same3 (fun _ _ q => sp_same_str q) (fun _ _ q => sp_same_str q) (fun _ _ q => sp_same a _ _ _ (by omega) q) q
  | .mark s a, n + 2, Xd, Q, hn, q => by
    simp only [Tm.depth] at hn
    exact same3 (fun _ _ q => sp_same_str q) (fun _ _ q => sp_same_str q) (fun _ _ q => sp_same a _ _ _ (by omega) q) q
  | .mix a, n + 2, Xd, Q, hn, q => by
    simp only [Tm.depth] at hn
    exact same2 (fun _ _ q => sp_same_str q) (fun _ _ q => sp_same a _ _ _ (by omega) q) q
theorem sp_right {t : Tm} {Xd : Err → Prop} {Q : D → Prop} (h : t.ok) (hd : t.depth ≤ 12) (hs : t.size ≤ 40) (q : Q (.bl true)) : m_law_right [t.d] Xd Q := by
  simp only [e_seq, e_next, e_ret, e_retN, e_if, e_asg, e_own, e_drop, e_c, e_var0, e_varS, e_op, e_test, e_and, e_or, e_not, e_andV, e_orV, e_notV, e_ifE, e_chain, e_nil, e_cons, e_tup, e_lst, e_cb, e_call, e_sl, e_part, e_noPart, e_items, e_rng1, e_lc, e_yes, e_fn, e_rho1, e_rho2, e_rho3, e_rho4, e_isi, e_ints, e_CT, e_lenS, e_lenT, e_lenL, e_addI, e_addS, e_addL, e_int, e_intB, e_ixT, e_ixL, e_ixS, e_at0, e_at1, e_at2, e_slT, e_slL, e_slS, e_tail, e_eqS, e_eqI, e_depS, e_depI, e_isiS, e_isiT, e_isiTT, e_isiTS, e_lcN, e_lcC, e_name, e_repl, e_inT, e_inL, e_inS, e_inTab, e_ixTab, e_is, e_isNot, e_eqv, e_nev, e_starts, D.bl.injEq, D.int.injEq, D.str.injEq, D.tup.injEq, exists_eq_left', exists_eq_left, true_and, and_true, and_self, if_true, if_false, ite_true, ite_false, Bool.false_eq_true, Bool.not_true, Bool.not_false, eq_self, List.set_cons_zero, List.set_cons_succ, List.getElem?_cons_zero, List.getElem?_cons_succ, List.length_cons, List.length_nil, List.replicate_zero, List.map_cons, List.map_nil, List.nil_append, List.cons_append, Nat.reduceAdd, Nat.zero_add, noOwn, wipeR, List.all_cons, List.all_nil, List.any_cons, List.any_nil, Bool.and_true, Bool.or_false, Bool.false_or, Bool.and_self, Bool.xor_false, Bool.false_xor, Bool.true_xor, decide_true, Option.some.injEq, e_itT, e_itL, e_itS, e_pl1, e_pl2, e_ty1, e_ty2, e_ok1, e_ok2, e_min, e_one, e_two, e_three, e_nnT, e_nnS, e_fl1, e_fl2, e_fl3, e_starts, e_st2, t_var_pair, t_var_box, t_var_half, t_var_shut, t_var_mark, t_var_mix, t_pair_var, t_pair_box, t_pair_half, t_pair_shut, t_pair_mark, t_pair_mix, t_box_var, t_box_pair, t_box_half, t_box_shut, t_box_mark, t_box_mix, t_half_var, t_half_pair, t_half_box, t_half_shut, t_half_mark, t_half_mix, t_shut_var, t_shut_pair, t_shut_box, t_shut_half, t_shut_mark, t_shut_mix, t_mark_var, t_mark_pair, t_mark_box, t_mark_half, t_mark_shut, t_mark_mix, t_mix_var, t_mix_pair, t_mix_box, t_mix_half, t_mix_shut, t_mix_mark, e_n2, e_n3, Int.reduceNeg, Bool.or_true, i_str_S, i_str_T, i_str_L, i_str_I, i_int_S, i_int_T, i_int_L, i_int_I, i_bool_S, i_bool_T, i_bool_L, i_bool_I, i_list_S, i_list_T, i_list_L, i_list_I, i_tuple_S, i_tuple_T, i_tuple_L, i_tuple_I, i_dict_S, i_dict_T, i_dict_L, i_dict_I, e_ty_int, e_ty_bool, e_ty_list, e_ty_dict, e_isi2, e_pl3, e_pl4, e_eqB, e_depB, e_ok3, e_r2, e_r3, e_r0, e_for, e_i1, e_p2, e_n0, e_n4, e_ln0, e_ln1, Int.reduceEq, Int.reduceLT, Int.reduceLE, decide_false, Option.isSome_some, Option.isSome_none, Bool.or_self, Bool.true_or, ↓reduceIte, m_law_right]
  refine sp_m_law_spelled t _ _ _ h hd (by omega) ?_
  simp only [e_seq, e_next, e_ret, e_retN, e_if, e_asg, e_own, e_drop, e_c, e_var0, e_varS, e_op, e_test, e_and, e_or, e_not, e_andV, e_orV, e_notV, e_ifE, e_chain, e_nil, e_cons, e_tup, e_lst, e_cb, e_call, e_sl, e_part, e_noPart, e_items, e_rng1, e_lc, e_yes, e_fn, e_rho1, e_rho2, e_rho3, e_rho4, e_isi, e_ints, e_CT, e_lenS, e_lenT, e_lenL, e_addI, e_addS, e_addL, e_int, e_intB, e_ixT, e_ixL, e_ixS, e_at0, e_at1, e_at2, e_slT, e_slL, e_slS, e_tail, e_eqS, e_eqI, e_depS, e_depI, e_isiS, e_isiT, e_isiTT, e_isiTS, e_lcN, e_lcC, e_name, e_repl, e_inT, e_inL, e_inS, e_inTab, e_ixTab, e_is, e_isNot, e_eqv, e_nev, e_starts, D.bl.injEq, D.int.injEq, D.str.injEq, D.tup.injEq, exists_eq_left', exists_eq_left, true_and, and_true, and_self, if_true, if_false, ite_true, ite_false, Bool.false_eq_true, Bool.not_true, Bool.not_false, eq_self, List.set_cons_zero, List.set_cons_succ, List.getElem?_cons_zero, List.getElem?_cons_succ, List.length_cons, List.length_nil, List.replicate_zero, List.map_cons, List.map_nil, List.nil_append, List.cons_append, Nat.reduceAdd, Nat.zero_add, noOwn, wipeR, List.all_cons, List.all_nil, List.any_cons, List.any_nil, Bool.and_true, Bool.or_false, Bool.false_or, Bool.and_self, Bool.xor_false, Bool.false_xor, Bool.true_xor, decide_true, Option.some.injEq, e_itT, e_itL, e_itS, e_pl1, e_pl2, e_ty1, e_ty2, e_ok1, e_ok2, e_min, e_one, e_two, e_three, e_nnT, e_nnS, e_fl1, e_fl2, e_fl3, e_starts, e_st2, t_var_pair, t_var_box, t_var_half, t_var_shut, t_var_mark, t_var_mix, t_pair_var, t_pair_box, t_pair_half, t_pair_shut, t_pair_mark, t_pair_mix, t_box_var, t_box_pair, t_box_half, t_box_shut, t_box_mark, t_box_mix, t_half_var, t_half_pair, t_half_box, t_half_shut, t_half_mark, t_half_mix, t_shut_var, t_shut_pair, t_shut_box, t_shut_half, t_shut_mark, t_shut_mix, t_mark_var, t_mark_pair, t_mark_box, t_mark_half, t_mark_shut, t_mark_mix, t_mix_var, t_mix_pair, t_mix_box, t_mix_half, t_mix_shut, t_mix_mark, e_n2, e_n3, Int.reduceNeg, Bool.or_true, i_str_S, i_str_T, i_str_L, i_str_I, i_int_S, i_int_T, i_int_L, i_int_I, i_bool_S, i_bool_T, i_bool_L, i_bool_I, i_list_S, i_list_T, i_list_L, i_list_I, i_tuple_S, i_tuple_T, i_tuple_L, i_tuple_I, i_dict_S, i_dict_T, i_dict_L, i_dict_I, e_ty_int, e_ty_bool, e_ty_list, e_ty_dict, e_isi2, e_pl3, e_pl4, e_eqB, e_depB, e_ok3, e_r2, e_r3, e_r0, e_for, e_i1, e_p2, e_n0, e_n4, e_ln0, e_ln1, Int.reduceEq, Int.reduceLT, Int.reduceLE, decide_false, Option.isSome_some, Option.isSome_none, Bool.or_self, Bool.true_or, ↓reduceIte, e_forC, e_forN]
  refine sp_worded h hd hs ?_
  refine sp_same_str ?_
  simp only [e_seq, e_next, e_ret, e_retN, e_if, e_asg, e_own, e_drop, e_c, e_var0, e_varS, e_op, e_test, e_and, e_or, e_not, e_andV, e_orV, e_notV, e_ifE, e_chain, e_nil, e_cons, e_tup, e_lst, e_cb, e_call, e_sl, e_part, e_noPart, e_items, e_rng1, e_lc, e_yes, e_fn, e_rho1, e_rho2, e_rho3, e_rho4, e_isi, e_ints, e_CT, e_lenS, e_lenT, e_lenL, e_addI, e_addS, e_addL, e_int, e_intB, e_ixT, e_ixL, e_ixS, e_at0, e_at1, e_at2, e_slT, e_slL, e_slS, e_tail, e_eqS, e_eqI, e_depS, e_depI, e_isiS, e_isiT, e_isiTT, e_isiTS, e_lcN, e_lcC, e_name, e_repl, e_inT, e_inL, e_inS, e_inTab, e_ixTab, e_is, e_isNot, e_eqv, e_nev, e_starts, D.bl.injEq, D.int.injEq, D.str.injEq, D.tup.injEq, exists_eq_left', exists_eq_left, true_and, and_true, and_self, if_true, if_false, ite_true, ite_false, Bool.false_eq_true, Bool.not_true, Bool.not_false, eq_self, List.set_cons_zero, List.set_cons_succ, List.getElem?_cons_zero, List.getElem?_cons_succ, List.length_cons, List.length_nil, List.replicate_zero, List.map_cons, List.map_nil, List.nil_append, List.cons_append, Nat.reduceAdd, Nat.zero_add, noOwn, wipeR, List.all_cons, List.all_nil, List.any_cons, List.any_nil, Bool.and_true, Bool.or_false, Bool.false_or, Bool.and_self, Bool.xor_false, Bool.false_xor, Bool.true_xor, decide_true, Option.some.injEq, e_itT, e_itL, e_itS, e_pl1, e_pl2, e_ty1, e_ty2, e_ok1, e_ok2, e_min, e_one, e_two, e_three, e_nnT, e_nnS, e_fl1, e_fl2, e_fl3, e_starts, e_st2, t_var_pair, t_var_box, t_var_half, t_var_shut, t_var_mark, t_var_mix, t_pair_var, t_pair_box, t_pair_half, t_pair_shut, t_pair_mark, t_pair_mix, t_box_var, t_box_pair, t_box_half, t_box_shut, t_box_mark, t_box_mix, t_half_var, t_half_pair, t_half_box, t_half_shut, t_half_mark, t_half_mix, t_shut_var, t_shut_pair, t_shut_box, t_shut_half, t_shut_mark, t_shut_mix, t_mark_var, t_mark_pair, t_mark_box, t_mark_half, t_mark_shut, t_mark_mix, t_mix_var, t_mix_pair, t_mix_box, t_mix_half, t_mix_shut, t_mix_mark, e_n2, e_n3, Int.reduceNeg, Bool.or_true, i_str_S, i_str_T, i_str_L, i_str_I, i_int_S, i_int_T, i_int_L, i_int_I, i_bool_S, i_bool_T, i_bool_L, i_bool_I, i_list_S, i_list_T, i_list_L, i_list_I, i_tuple_S, i_tuple_T, i_tuple_L, i_tuple_I, i_dict_S, i_dict_T, i_dict_L, i_dict_I, e_ty_int, e_ty_bool, e_ty_list, e_ty_dict, e_isi2, e_pl3, e_pl4, e_eqB, e_depB, e_ok3, e_r2, e_r3, e_r0, e_for, e_i1, e_p2, e_n0, e_n4, e_ln0, e_ln1, Int.reduceEq, Int.reduceLT, Int.reduceLE, decide_false, Option.isSome_some, Option.isSome_none, Bool.or_self, Bool.true_or, ↓reduceIte]
  refine sp_read_term h hd hs ?_
  refine sp_same t _ _ _ (by omega) ?_
  simp only [e_seq, e_next, e_ret, e_retN, e_if, e_asg, e_own, e_drop, e_c, e_var0, e_varS, e_op, e_test, e_and, e_or, e_not, e_andV, e_orV, e_notV, e_ifE, e_chain, e_nil, e_cons, e_tup, e_lst, e_cb, e_call, e_sl, e_part, e_noPart, e_items, e_rng1, e_lc, e_yes, e_fn, e_rho1, e_rho2, e_rho3, e_rho4, e_isi, e_ints, e_CT, e_lenS, e_lenT, e_lenL, e_addI, e_addS, e_addL, e_int, e_intB, e_ixT, e_ixL, e_ixS, e_at0, e_at1, e_at2, e_slT, e_slL, e_slS, e_tail, e_eqS, e_eqI, e_depS, e_depI, e_isiS, e_isiT, e_isiTT, e_isiTS, e_lcN, e_lcC, e_name, e_repl, e_inT, e_inL, e_inS, e_inTab, e_ixTab, e_is, e_isNot, e_eqv, e_nev, e_starts, D.bl.injEq, D.int.injEq, D.str.injEq, D.tup.injEq, exists_eq_left', exists_eq_left, true_and, and_true, and_self, if_true, if_false, ite_true, ite_false, Bool.false_eq_true, Bool.not_true, Bool.not_false, eq_self, List.set_cons_zero, List.set_cons_succ, List.getElem?_cons_zero, List.getElem?_cons_succ, List.length_cons, List.length_nil, List.replicate_zero, List.map_cons, List.map_nil, List.nil_append, List.cons_append, Nat.reduceAdd, Nat.zero_add, noOwn, wipeR, List.all_cons, List.all_nil, List.any_cons, List.any_nil, Bool.and_true, Bool.or_false, Bool.false_or, Bool.and_self, Bool.xor_false, Bool.false_xor, Bool.true_xor, decide_true, Option.some.injEq, e_itT, e_itL, e_itS, e_pl1, e_pl2, e_ty1, e_ty2, e_ok1, e_ok2, e_min, e_one, e_two, e_three, e_nnT, e_nnS, e_fl1, e_fl2, e_fl3, e_starts, e_st2, t_var_pair, t_var_box, t_var_half, t_var_shut, t_var_mark, t_var_mix, t_pair_var, t_pair_box, t_pair_half, t_pair_shut, t_pair_mark, t_pair_mix, t_box_var, t_box_pair, t_box_half, t_box_shut, t_box_mark, t_box_mix, t_half_var, t_half_pair, t_half_box, t_half_shut, t_half_mark, t_half_mix, t_shut_var, t_shut_pair, t_shut_box, t_shut_half, t_shut_mark, t_shut_mix, t_mark_var, t_mark_pair, t_mark_box, t_mark_half, t_mark_shut, t_mark_mix, t_mix_var, t_mix_pair, t_mix_box, t_mix_half, t_mix_shut, t_mix_mark, e_n2, e_n3, Int.reduceNeg, Bool.or_true, i_str_S, i_str_T, i_str_L, i_str_I, i_int_S, i_int_T, i_int_L, i_int_I, i_bool_S, i_bool_T, i_bool_L, i_bool_I, i_list_S, i_list_T, i_list_L, i_list_I, i_tuple_S, i_tuple_T, i_tuple_L, i_tuple_I, i_dict_S, i_dict_T, i_dict_L, i_dict_I, e_ty_int, e_ty_bool, e_ty_list, e_ty_dict, e_isi2, e_pl3, e_pl4, e_eqB, e_depB, e_ok3, e_r2, e_r3, e_r0, e_for, e_i1, e_p2, e_n0, e_n4, e_ln0, e_ln1, Int.reduceEq, Int.reduceLT, Int.reduceLE, decide_false, Option.isSome_some, Option.isSome_none, Bool.or_self, Bool.true_or, ↓reduceIte]
  refine sp_worded h hd hs ?_
  refine sp_same_str ?_
  simp only [e_seq, e_next, e_ret, e_retN, e_if, e_asg, e_own, e_drop, e_c, e_var0, e_varS, e_op, e_test, e_and, e_or, e_not, e_andV, e_orV, e_notV, e_ifE, e_chain, e_nil, e_cons, e_tup, e_lst, e_cb, e_call, e_sl, e_part, e_noPart, e_items, e_rng1, e_lc, e_yes, e_fn, e_rho1, e_rho2, e_rho3, e_rho4, e_isi, e_ints, e_CT, e_lenS, e_lenT, e_lenL, e_addI, e_addS, e_addL, e_int, e_intB, e_ixT, e_ixL, e_ixS, e_at0, e_at1, e_at2, e_slT, e_slL, e_slS, e_tail, e_eqS, e_eqI, e_depS, e_depI, e_isiS, e_isiT, e_isiTT, e_isiTS, e_lcN, e_lcC, e_name, e_repl, e_inT, e_inL, e_inS, e_inTab, e_ixTab, e_is, e_isNot, e_eqv, e_nev, e_starts, D.bl.injEq, D.int.injEq, D.str.injEq, D.tup.injEq, exists_eq_left', exists_eq_left, true_and, and_true, and_self, if_true, if_false, ite_true, ite_false, Bool.false_eq_true, Bool.not_true, Bool.not_false, eq_self, List.set_cons_zero, List.set_cons_succ, List.getElem?_cons_zero, List.getElem?_cons_succ, List.length_cons, List.length_nil, List.replicate_zero, List.map_cons, List.map_nil, List.nil_append, List.cons_append, Nat.reduceAdd, Nat.zero_add, noOwn, wipeR, List.all_cons, List.all_nil, List.any_cons, List.any_nil, Bool.and_true, Bool.or_false, Bool.false_or, Bool.and_self, Bool.xor_false, Bool.false_xor, Bool.true_xor, decide_true, Option.some.injEq, e_itT, e_itL, e_itS, e_pl1, e_pl2, e_ty1, e_ty2, e_ok1, e_ok2, e_min, e_one, e_two, e_three, e_nnT, e_nnS, e_fl1, e_fl2, e_fl3, e_starts, e_st2, t_var_pair, t_var_box, t_var_half, t_var_shut, t_var_mark, t_var_mix, t_pair_var, t_pair_box, t_pair_half, t_pair_shut, t_pair_mark, t_pair_mix, t_box_var, t_box_pair, t_box_half, t_box_shut, t_box_mark, t_box_mix, t_half_var, t_half_pair, t_half_box, t_half_shut, t_half_mark, t_half_mix, t_shut_var, t_shut_pair, t_shut_box, t_shut_half, t_shut_mark, t_shut_mix, t_mark_var, t_mark_pair, t_mark_box, t_mark_half, t_mark_shut, t_mark_mix, t_mix_var, t_mix_pair, t_mix_box, t_mix_half, t_mix_shut, t_mix_mark, e_n2, e_n3, Int.reduceNeg, Bool.or_true, i_str_S, i_str_T, i_str_L, i_str_I, i_int_S, i_int_T, i_int_L, i_int_I, i_bool_S, i_bool_T, i_bool_L, i_bool_I, i_list_S, i_list_T, i_list_L, i_list_I, i_tuple_S, i_tuple_T, i_tuple_L, i_tuple_I, i_dict_S, i_dict_T, i_dict_L, i_dict_I, e_ty_int, e_ty_bool, e_ty_list, e_ty_dict, e_isi2, e_pl3, e_pl4, e_eqB, e_depB, e_ok3, e_r2, e_r3, e_r0, e_for, e_i1, e_p2, e_n0, e_n4, e_ln0, e_ln1, Int.reduceEq, Int.reduceLT, Int.reduceLE, decide_false, Option.isSome_some, Option.isSome_none, Bool.or_self, Bool.true_or, ↓reduceIte]
  refine sp_read_term h hd hs ?_
  refine sp_same t _ _ _ (by omega) ?_
  simp only [e_seq, e_next, e_ret, e_retN, e_if, e_asg, e_own, e_drop, e_c, e_var0, e_varS, e_op, e_test, e_and, e_or, e_not, e_andV, e_orV, e_notV, e_ifE, e_chain, e_nil, e_cons, e_tup, e_lst, e_cb, e_call, e_sl, e_part, e_noPart, e_items, e_rng1, e_lc, e_yes, e_fn, e_rho1, e_rho2, e_rho3, e_rho4, e_isi, e_ints, e_CT, e_lenS, e_lenT, e_lenL, e_addI, e_addS, e_addL, e_int, e_intB, e_ixT, e_ixL, e_ixS, e_at0, e_at1, e_at2, e_slT, e_slL, e_slS, e_tail, e_eqS, e_eqI, e_depS, e_depI, e_isiS, e_isiT, e_isiTT, e_isiTS, e_lcN, e_lcC, e_name, e_repl, e_inT, e_inL, e_inS, e_inTab, e_ixTab, e_is, e_isNot, e_eqv, e_nev, e_starts, D.bl.injEq, D.int.injEq, D.str.injEq, D.tup.injEq, exists_eq_left', exists_eq_left, true_and, and_true, and_self, if_true, if_false, ite_true, ite_false, Bool.false_eq_true, Bool.not_true, Bool.not_false, eq_self, List.set_cons_zero, List.set_cons_succ, List.getElem?_cons_zero, List.getElem?_cons_succ, List.length_cons, List.length_nil, List.replicate_zero, List.map_cons, List.map_nil, List.nil_append, List.cons_append, Nat.reduceAdd, Nat.zero_add, noOwn, wipeR, List.all_cons, List.all_nil, List.any_cons, List.any_nil, Bool.and_true, Bool.or_false, Bool.false_or, Bool.and_self, Bool.xor_false, Bool.false_xor, Bool.true_xor, decide_true, Option.some.injEq, e_itT, e_itL, e_itS, e_pl1, e_pl2, e_ty1, e_ty2, e_ok1, e_ok2, e_min, e_one, e_two, e_three, e_nnT, e_nnS, e_fl1, e_fl2, e_fl3, e_starts, e_st2, t_var_pair, t_var_box, t_var_half, t_var_shut, t_var_mark, t_var_mix, t_pair_var, t_pair_box, t_pair_half, t_pair_shut, t_pair_mark, t_pair_mix, t_box_var, t_box_pair, t_box_half, t_box_shut, t_box_mark, t_box_mix, t_half_var, t_half_pair, t_half_box, t_half_shut, t_half_mark, t_half_mix, t_shut_var, t_shut_pair, t_shut_box, t_shut_half, t_shut_mark, t_shut_mix, t_mark_var, t_mark_pair, t_mark_box, t_mark_half, t_mark_shut, t_mark_mix, t_mix_var, t_mix_pair, t_mix_box, t_mix_half, t_mix_shut, t_mix_mark, e_n2, e_n3, Int.reduceNeg, Bool.or_true, i_str_S, i_str_T, i_str_L, i_str_I, i_int_S, i_int_T, i_int_L, i_int_I, i_bool_S, i_bool_T, i_bool_L, i_bool_I, i_list_S, i_list_T, i_list_L, i_list_I, i_tuple_S, i_tuple_T, i_tuple_L, i_tuple_I, i_dict_S, i_dict_T, i_dict_L, i_dict_I, e_ty_int, e_ty_bool, e_ty_list, e_ty_dict, e_isi2, e_pl3, e_pl4, e_eqB, e_depB, e_ok3, e_r2, e_r3, e_r0, e_for, e_i1, e_p2, e_n0, e_n4, e_ln0, e_ln1, Int.reduceEq, Int.reduceLT, Int.reduceLE, decide_false, Option.isSome_some, Option.isSome_none, Bool.or_self, Bool.true_or, ↓reduceIte]
  exact q
theorem sp_pick {xs : List D} {Xd : Err → Prop} {Q : D → Prop} (h0 : 0 < xs.length) (h1 : xs.length < 1000000) (k : ∀ x ∈ xs, Q x) : m_law_pick [.bag, .lst xs] Xd Q := by
  simp only [e_seq, e_next, e_ret, e_retN, e_if, e_asg, e_own, e_drop, e_c, e_var0, e_varS, e_op, e_test, e_and, e_or, e_not, e_andV, e_orV, e_notV, e_ifE, e_chain, e_nil, e_cons, e_tup, e_lst, e_cb, e_call, e_sl, e_part, e_noPart, e_items, e_rng1, e_lc, e_yes, e_fn, e_rho1, e_rho2, e_rho3, e_rho4, e_isi, e_ints, e_CT, e_lenS, e_lenT, e_lenL, e_addI, e_addS, e_addL, e_int, e_intB, e_ixT, e_ixL, e_ixS, e_at0, e_at1, e_at2, e_slT, e_slL, e_slS, e_tail, e_eqS, e_eqI, e_depS, e_depI, e_isiS, e_isiT, e_isiTT, e_isiTS, e_lcN, e_lcC, e_name, e_repl, e_inT, e_inL, e_inS, e_inTab, e_ixTab, e_is, e_isNot, e_eqv, e_nev, e_starts, D.bl.injEq, D.int.injEq, D.str.injEq, D.tup.injEq, exists_eq_left', exists_eq_left, true_and, and_true, and_self, if_true, if_false, ite_true, ite_false, Bool.false_eq_true, Bool.not_true, Bool.not_false, eq_self, List.set_cons_zero, List.set_cons_succ, List.getElem?_cons_zero, List.getElem?_cons_succ, List.length_cons, List.length_nil, List.replicate_zero, List.map_cons, List.map_nil, List.nil_append, List.cons_append, Nat.reduceAdd, Nat.zero_add, noOwn, wipeR, List.all_cons, List.all_nil, List.any_cons, List.any_nil, Bool.and_true, Bool.or_false, Bool.false_or, Bool.and_self, Bool.xor_false, Bool.false_xor, Bool.true_xor, decide_true, Option.some.injEq, e_itT, e_itL, e_itS, e_pl1, e_pl2, e_ty1, e_ty2, e_ok1, e_ok2, e_min, e_one, e_two, e_three, e_nnT, e_nnS, e_fl1, e_fl2, e_fl3, e_starts, e_st2, t_var_pair, t_var_box, t_var_half, t_var_shut, t_var_mark, t_var_mix, t_pair_var, t_pair_box, t_pair_half, t_pair_shut, t_pair_mark, t_pair_mix, t_box_var, t_box_pair, t_box_half, t_box_shut, t_box_mark, t_box_mix, t_half_var, t_half_pair, t_half_box, t_half_shut, t_half_mark, t_half_mix, t_shut_var, t_shut_pair, t_shut_box, t_shut_half, t_shut_mark, t_shut_mix, t_mark_var, t_mark_pair, t_mark_box, t_mark_half, t_mark_shut, t_mark_mix, t_mix_var, t_mix_pair, t_mix_box, t_mix_half, t_mix_shut, t_mix_mark, e_n2, e_n3, Int.reduceNeg, Bool.or_true, i_str_S, i_str_T, i_str_L, i_str_I, i_int_S, i_int_T, i_int_L, i_int_I, i_bool_S, i_bool_T, i_bool_L, i_bool_I, i_list_S, i_list_T, i_list_L, i_list_I, i_tuple_S, i_tuple_T, i_tuple_L, i_tuple_I, i_dict_S, i_dict_T, i_dict_L, i_dict_I, e_ty_int, e_ty_bool, e_ty_list, e_ty_dict, e_isi2, e_pl3, e_pl4, e_eqB, e_depB, e_ok3, e_r2, e_r3, e_r0, e_for, e_i1, e_p2, e_n0, e_n4, e_ln0, e_ln1, Int.reduceEq, Int.reduceLT, Int.reduceLE, decide_false, Option.isSome_some, Option.isSome_none, Bool.or_self, Bool.true_or, ↓reduceIte, m_law_pick]
  rw [e_draw (by omega) (by omega)]
  intro r h2 h3
  simp only [e_seq, e_next, e_ret, e_retN, e_if, e_asg, e_own, e_drop, e_c, e_var0, e_varS, e_op, e_test, e_and, e_or, e_not, e_andV, e_orV, e_notV, e_ifE, e_chain, e_nil, e_cons, e_tup, e_lst, e_cb, e_call, e_sl, e_part, e_noPart, e_items, e_rng1, e_lc, e_yes, e_fn, e_rho1, e_rho2, e_rho3, e_rho4, e_isi, e_ints, e_CT, e_lenS, e_lenT, e_lenL, e_addI, e_addS, e_addL, e_int, e_intB, e_ixT, e_ixL, e_ixS, e_at0, e_at1, e_at2, e_slT, e_slL, e_slS, e_tail, e_eqS, e_eqI, e_depS, e_depI, e_isiS, e_isiT, e_isiTT, e_isiTS, e_lcN, e_lcC, e_name, e_repl, e_inT, e_inL, e_inS, e_inTab, e_ixTab, e_is, e_isNot, e_eqv, e_nev, e_starts, D.bl.injEq, D.int.injEq, D.str.injEq, D.tup.injEq, exists_eq_left', exists_eq_left, true_and, and_true, and_self, if_true, if_false, ite_true, ite_false, Bool.false_eq_true, Bool.not_true, Bool.not_false, eq_self, List.set_cons_zero, List.set_cons_succ, List.getElem?_cons_zero, List.getElem?_cons_succ, List.length_cons, List.length_nil, List.replicate_zero, List.map_cons, List.map_nil, List.nil_append, List.cons_append, Nat.reduceAdd, Nat.zero_add, noOwn, wipeR, List.all_cons, List.all_nil, List.any_cons, List.any_nil, Bool.and_true, Bool.or_false, Bool.false_or, Bool.and_self, Bool.xor_false, Bool.false_xor, Bool.true_xor, decide_true, Option.some.injEq, e_itT, e_itL, e_itS, e_pl1, e_pl2, e_ty1, e_ty2, e_ok1, e_ok2, e_min, e_one, e_two, e_three, e_nnT, e_nnS, e_fl1, e_fl2, e_fl3, e_starts, e_st2, t_var_pair, t_var_box, t_var_half, t_var_shut, t_var_mark, t_var_mix, t_pair_var, t_pair_box, t_pair_half, t_pair_shut, t_pair_mark, t_pair_mix, t_box_var, t_box_pair, t_box_half, t_box_shut, t_box_mark, t_box_mix, t_half_var, t_half_pair, t_half_box, t_half_shut, t_half_mark, t_half_mix, t_shut_var, t_shut_pair, t_shut_box, t_shut_half, t_shut_mark, t_shut_mix, t_mark_var, t_mark_pair, t_mark_box, t_mark_half, t_mark_shut, t_mark_mix, t_mix_var, t_mix_pair, t_mix_box, t_mix_half, t_mix_shut, t_mix_mark, e_n2, e_n3, Int.reduceNeg, Bool.or_true, i_str_S, i_str_T, i_str_L, i_str_I, i_int_S, i_int_T, i_int_L, i_int_I, i_bool_S, i_bool_T, i_bool_L, i_bool_I, i_list_S, i_list_T, i_list_L, i_list_I, i_tuple_S, i_tuple_T, i_tuple_L, i_tuple_I, i_dict_S, i_dict_T, i_dict_L, i_dict_I, e_ty_int, e_ty_bool, e_ty_list, e_ty_dict, e_isi2, e_pl3, e_pl4, e_eqB, e_depB, e_ok3, e_r2, e_r3, e_r0, e_for, e_i1, e_p2, e_n0, e_n4, e_ln0, e_ln1, Int.reduceEq, Int.reduceLT, Int.reduceLE, decide_false, Option.isSome_some, Option.isSome_none, Bool.or_self, Bool.true_or, ↓reduceIte]
  have hr : r.toNat < xs.length := by omega
  refine ⟨xs[r.toNat], ?_, k _ (List.getElem_mem _)⟩
  have := at_nat (l := xs) (i := r.toNat) (x := xs[r.toNat]) (by simp)
  rwa [Int.toNat_of_nonneg h2] at this
/-- a row of names -/
def Nms (l : List (List Nat)) : Prop := (∀ s ∈ l, isNm s) ∧ 0 < l.length ∧ l.length < 1000
def nmD (l : List (List Nat)) : List D := l.map fun s => .str (St s)
theorem sp_pickN {l : List (List Nat)} {Xd : Err → Prop} {Q : D → Prop} (h : Nms l) (k : ∀ s, isNm s → Q (Tm.nm s).d) : m_law_pick [.bag, .lst (nmD l)] Xd Q := by
  refine sp_pick (by simp [nmD]; exact h.2.1) (by simp [nmD]; have := h.2.2; omega) fun x hx => ?_
  obtain ⟨s, hs, rfl⟩ := List.mem_map.mp hx
  exact k s (h.1 s hs)
theorem sp_leaf {l : List (List Nat)} {Xd : Err → Prop} {Q : D → Prop} (h : Nms l) (k : ∀ s, isNm s → Q (Tm.nm s).d) : m_law_leaf [.bag, .lst (nmD l), .lst []] Xd Q := by
  simp only [e_seq, e_next, e_ret, e_retN, e_if, e_asg, e_own, e_drop, e_c, e_var0, e_varS, e_op, e_test, e_and, e_or, e_not, e_andV, e_orV, e_notV, e_ifE, e_chain, e_nil, e_cons, e_tup, e_lst, e_cb, e_call, e_sl, e_part, e_noPart, e_items, e_rng1, e_lc, e_yes, e_fn, e_rho1, e_rho2, e_rho3, e_rho4, e_isi, e_ints, e_CT, e_lenS, e_lenT, e_lenL, e_addI, e_addS, e_addL, e_int, e_intB, e_ixT, e_ixL, e_ixS, e_at0, e_at1, e_at2, e_slT, e_slL, e_slS, e_tail, e_eqS, e_eqI, e_depS, e_depI, e_isiS, e_isiT, e_isiTT, e_isiTS, e_lcN, e_lcC, e_name, e_repl, e_inT, e_inL, e_inS, e_inTab, e_ixTab, e_is, e_isNot, e_eqv, e_nev, e_starts, D.bl.injEq, D.int.injEq, D.str.injEq, D.tup.injEq, exists_eq_left', exists_eq_left, true_and, and_true, and_self, if_true, if_false, ite_true, ite_false, Bool.false_eq_true, Bool.not_true, Bool.not_false, eq_self, List.set_cons_zero, List.set_cons_succ, List.getElem?_cons_zero, List.getElem?_cons_succ, List.length_cons, List.length_nil, List.replicate_zero, List.map_cons, List.map_nil, List.nil_append, List.cons_append, Nat.reduceAdd, Nat.zero_add, noOwn, wipeR, List.all_cons, List.all_nil, List.any_cons, List.any_nil, Bool.and_true, Bool.or_false, Bool.false_or, Bool.and_self, Bool.xor_false, Bool.false_xor, Bool.true_xor, decide_true, Option.some.injEq, e_itT, e_itL, e_itS, e_pl1, e_pl2, e_ty1, e_ty2, e_ok1, e_ok2, e_min, e_one, e_two, e_three, e_nnT, e_nnS, e_fl1, e_fl2, e_fl3, e_starts, e_st2, t_var_pair, t_var_box, t_var_half, t_var_shut, t_var_mark, t_var_mix, t_pair_var, t_pair_box, t_pair_half, t_pair_shut, t_pair_mark, t_pair_mix, t_box_var, t_box_pair, t_box_half, t_box_shut, t_box_mark, t_box_mix, t_half_var, t_half_pair, t_half_box, t_half_shut, t_half_mark, t_half_mix, t_shut_var, t_shut_pair, t_shut_box, t_shut_half, t_shut_mark, t_shut_mix, t_mark_var, t_mark_pair, t_mark_box, t_mark_half, t_mark_shut, t_mark_mix, t_mix_var, t_mix_pair, t_mix_box, t_mix_half, t_mix_shut, t_mix_mark, e_n2, e_n3, Int.reduceNeg, Bool.or_true, i_str_S, i_str_T, i_str_L, i_str_I, i_int_S, i_int_T, i_int_L, i_int_I, i_bool_S, i_bool_T, i_bool_L, i_bool_I, i_list_S, i_list_T, i_list_L, i_list_I, i_tuple_S, i_tuple_T, i_tuple_L, i_tuple_I, i_dict_S, i_dict_T, i_dict_L, i_dict_I, e_ty_int, e_ty_bool, e_ty_list, e_ty_dict, e_isi2, e_pl3, e_pl4, e_eqB, e_depB, e_ok3, e_r2, e_r3, e_r0, e_for, e_i1, e_p2, e_n0, e_n4, e_ln0, e_ln1, Int.reduceEq, Int.reduceLT, Int.reduceLE, decide_false, Option.isSome_some, Option.isSome_none, Bool.or_self, Bool.true_or, ↓reduceIte, m_law_leaf]
  exact sp_pickN h k
theorem sp_pattern {l : List (List Nat)} (h : Nms l) : ∀ (k n : Nat) (i : Int) (Xd : Err → Prop) (Q : D → Prop), i = (k : Int) + 1 → k < n → (∀ t : Tm, t.ok → t.depth ≤ (k : Int) + 1 → t.size ≤ (2 ^ k : Nat) → Q t.d) → m_law_pattern n [.bag, .lst (nmD l), .lst [], .int i] Xd Q
  | k, 0, i, Xd, Q, hi, hn, q => by omega
  | k, n + 1, i, Xd, Q, hi, hn, q => by
    have p0 := Nat.pow_pos (n := k) (show 0 < 2 by decide)
    have leaf : ∀ s, isNm s → Q (Tm.nm s).d := fun s hs => q (.nm s) hs (by simp only [Tm.depth]; omega) (by simp only [Tm.size]; omega)
    simp only [e_seq, e_next, e_ret, e_retN, e_if, e_asg, e_own, e_drop, e_c, e_var0, e_varS, e_op, e_test, e_and, e_or, e_not, e_andV, e_orV, e_notV, e_ifE, e_chain, e_nil, e_cons, e_tup, e_lst, e_cb, e_call, e_sl, e_part, e_noPart, e_items, e_rng1, e_lc, e_yes, e_fn, e_rho1, e_rho2, e_rho3, e_rho4, e_isi, e_ints, e_CT, e_lenS, e_lenT, e_lenL, e_addI, e_addS, e_addL, e_int, e_intB, e_ixT, e_ixL, e_ixS, e_at0, e_at1, e_at2, e_slT, e_slL, e_slS, e_tail, e_eqS, e_eqI, e_depS, e_depI, e_isiS, e_isiT, e_isiTT, e_isiTS, e_lcN, e_lcC, e_name, e_repl, e_inT, e_inL, e_inS, e_inTab, e_ixTab, e_is, e_isNot, e_eqv, e_nev, e_starts, D.bl.injEq, D.int.injEq, D.str.injEq, D.tup.injEq, exists_eq_left', exists_eq_left, true_and, and_true, and_self, if_true, if_false, ite_true, ite_false, Bool.false_eq_true, Bool.not_true, Bool.not_false, eq_self, List.set_cons_zero, List.set_cons_succ, List.getElem?_cons_zero, List.getElem?_cons_succ, List.length_cons, List.length_nil, List.replicate_zero, List.map_cons, List.map_nil, List.nil_append, List.cons_append, Nat.reduceAdd, Nat.zero_add, noOwn, wipeR, List.all_cons, List.all_nil, List.any_cons, List.any_nil, Bool.and_true, Bool.or_false, Bool.false_or, Bool.and_self, Bool.xor_false, Bool.false_xor, Bool.true_xor, decide_true, Option.some.injEq, e_itT, e_itL, e_itS, e_pl1, e_pl2, e_ty1, e_ty2, e_ok1, e_ok2, e_min, e_one, e_two, e_three, e_nnT, e_nnS, e_fl1, e_fl2, e_fl3, e_starts, e_st2, t_var_pair, t_var_box, t_var_half, t_var_shut, t_var_mark, t_var_mix, t_pair_var, t_pair_box, t_pair_half, t_pair_shut, t_pair_mark, t_pair_mix, t_box_var, t_box_pair, t_box_half, t_box_shut, t_box_mark, t_box_mix, t_half_var, t_half_pair, t_half_box, t_half_shut, t_half_mark, t_half_mix, t_shut_var, t_shut_pair, t_shut_box, t_shut_half, t_shut_mark, t_shut_mix, t_mark_var, t_mark_pair, t_mark_box, t_mark_half, t_mark_shut, t_mark_mix, t_mix_var, t_mix_pair, t_mix_box, t_mix_half, t_mix_shut, t_mix_mark, e_n2, e_n3, Int.reduceNeg, Bool.or_true, i_str_S, i_str_T, i_str_L, i_str_I, i_int_S, i_int_T, i_int_L, i_int_I, i_bool_S, i_bool_T, i_bool_L, i_bool_I, i_list_S, i_list_T, i_list_L, i_list_I, i_tuple_S, i_tuple_T, i_tuple_L, i_tuple_I, i_dict_S, i_dict_T, i_dict_L, i_dict_I, e_ty_int, e_ty_bool, e_ty_list, e_ty_dict, e_isi2, e_pl3, e_pl4, e_eqB, e_depB, e_ok3, e_r2, e_r3, e_r0, e_for, e_i1, e_p2, e_n0, e_n4, e_ln0, e_ln1, Int.reduceEq, Int.reduceLT, Int.reduceLE, decide_false, Option.isSome_some, Option.isSome_none, Bool.or_self, Bool.true_or, ↓reduceIte, m_law_pattern, e_draw]
    intro r h1 h2
    by_cases g1 : decide (i = 1) = true
    · simp only [e_seq, e_next, e_ret, e_retN, e_if, e_asg, e_own, e_drop, e_c, e_var0, e_varS, e_op, e_test, e_and, e_or, e_not, e_andV, e_orV, e_notV, e_ifE, e_chain, e_nil, e_cons, e_tup, e_lst, e_cb, e_call, e_sl, e_part, e_noPart, e_items, e_rng1, e_lc, e_yes, e_fn, e_rho1, e_rho2, e_rho3, e_rho4, e_isi, e_ints, e_CT, e_lenS, e_lenT, e_lenL, e_addI, e_addS, e_addL, e_int, e_intB, e_ixT, e_ixL, e_ixS, e_at0, e_at1, e_at2, e_slT, e_slL, e_slS, e_tail, e_eqS, e_eqI, e_depS, e_depI, e_isiS, e_isiT, e_isiTT, e_isiTS, e_lcN, e_lcC, e_name, e_repl, e_inT, e_inL, e_inS, e_inTab, e_ixTab, e_is, e_isNot, e_eqv, e_nev, e_starts, D.bl.injEq, D.int.injEq, D.str.injEq, D.tup.injEq, exists_eq_left', exists_eq_left, true_and, and_true, and_self, if_true, if_false, ite_true, ite_false, Bool.false_eq_true, Bool.not_true, Bool.not_false, eq_self, List.set_cons_zero, List.set_cons_succ, List.getElem?_cons_zero, List.getElem?_cons_succ, List.length_cons, List.length_nil, List.replicate_zero, List.map_cons, List.map_nil, List.nil_append, List.cons_append, Nat.reduceAdd, Nat.zero_add, noOwn, wipeR, List.all_cons, List.all_nil, List.any_cons, List.any_nil, Bool.and_true, Bool.or_false, Bool.false_or, Bool.and_self, Bool.xor_false, Bool.false_xor, Bool.true_xor, decide_true, Option.some.injEq, e_itT, e_itL, e_itS, e_pl1, e_pl2, e_ty1, e_ty2, e_ok1, e_ok2, e_min, e_one, e_two, e_three, e_nnT, e_nnS, e_fl1, e_fl2, e_fl3, e_starts, e_st2, t_var_pair, t_var_box, t_var_half, t_var_shut, t_var_mark, t_var_mix, t_pair_var, t_pair_box, t_pair_half, t_pair_shut, t_pair_mark, t_pair_mix, t_box_var, t_box_pair, t_box_half, t_box_shut, t_box_mark, t_box_mix, t_half_var, t_half_pair, t_half_box, t_half_shut, t_half_mark, t_half_mix, t_shut_var, t_shut_pair, t_shut_box, t_shut_half, t_shut_mark, t_shut_mix, t_mark_var, t_mark_pair, t_mark_box, t_mark_half, t_mark_shut, t_mark_mix, t_mix_var, t_mix_pair, t_mix_box, t_mix_half, t_mix_shut, t_mix_mark, e_n2, e_n3, Int.reduceNeg, Bool.or_true, i_str_S, i_str_T, i_str_L, i_str_I, i_int_S, i_int_T, i_int_L, i_int_I, i_bool_S, i_bool_T, i_bool_L, i_bool_I, i_list_S, i_list_T, i_list_L, i_list_I, i_tuple_S, i_tuple_T, i_tuple_L, i_tuple_I, i_dict_S, i_dict_T, i_dict_L, i_dict_I, e_ty_int, e_ty_bool, e_ty_list, e_ty_dict, e_isi2, e_pl3, e_pl4, e_eqB, e_depB, e_ok3, e_r2, e_r3, e_r0, e_for, e_i1, e_p2, e_n0, e_n4, e_ln0, e_ln1, Int.reduceEq, Int.reduceLT, Int.reduceLE, decide_false, Option.isSome_some, Option.isSome_none, Bool.or_self, Bool.true_or, ↓reduceIte, g1]
      exact sp_leaf h leaf
    · have g1 : decide (i = 1) = false := by simpa using g1
      have g1' : i ≠ 1 := of_decide_eq_false g1
      cases k with
      | zero => omega
      | succ k =>
      have rec_ := fun (Q : D → Prop) q => sp_pattern h k n (i - 1) (fun e => Xd e) Q (by omega) (by omega) q
      have pk : (2 ^ (k + 1) : Nat) = 2 * 2 ^ k := by rw [Nat.pow_succ]; omega
      have pp := Nat.pow_pos (n := k) (show 0 < 2 by decide)
      by_cases c1 : decide (r < 4) = true
      · simp only [e_seq, e_next, e_ret, e_retN, e_if, e_asg, e_own, e_drop, e_c, e_var0, e_varS, e_op, e_test, e_and, e_or, e_not, e_andV, e_orV, e_notV, e_ifE, e_chain, e_nil, e_cons, e_tup, e_lst, e_cb, e_call, e_sl, e_part, e_noPart, e_items, e_rng1, e_lc, e_yes, e_fn, e_rho1, e_rho2, e_rho3, e_rho4, e_isi, e_ints, e_CT, e_lenS, e_lenT, e_lenL, e_addI, e_addS, e_addL, e_int, e_intB, e_ixT, e_ixL, e_ixS, e_at0, e_at1, e_at2, e_slT, e_slL, e_slS, e_tail, e_eqS, e_eqI, e_depS, e_depI, e_isiS, e_isiT, e_isiTT, e_isiTS, e_lcN, e_lcC, e_name, e_repl, e_inT, e_inL, e_inS, e_inTab, e_ixTab, e_is, e_isNot, e_eqv, e_nev, e_starts, D.bl.injEq, D.int.injEq, D.str.injEq, D.tup.injEq, exists_eq_left', exists_eq_left, true_and, and_true, and_self, if_true, if_false, ite_true, ite_false, Bool.false_eq_true, Bool.not_true, Bool.not_false, eq_self, List.set_cons_zero, List.set_cons_succ, List.getElem?_cons_zero, List.getElem?_cons_succ, List.length_cons, List.length_nil, List.replicate_zero, List.map_cons, List.map_nil, List.nil_append, List.cons_append, Nat.reduceAdd, Nat.zero_add, noOwn, wipeR, List.all_cons, List.all_nil, List.any_cons, List.any_nil, Bool.and_true, Bool.or_false, Bool.false_or, Bool.and_self, Bool.xor_false, Bool.false_xor, Bool.true_xor, decide_true, Option.some.injEq, e_itT, e_itL, e_itS, e_pl1, e_pl2, e_ty1, e_ty2, e_ok1, e_ok2, e_min, e_one, e_two, e_three, e_nnT, e_nnS, e_fl1, e_fl2, e_fl3, e_starts, e_st2, t_var_pair, t_var_box, t_var_half, t_var_shut, t_var_mark, t_var_mix, t_pair_var, t_pair_box, t_pair_half, t_pair_shut, t_pair_mark, t_pair_mix, t_box_var, t_box_pair, t_box_half, t_box_shut, t_box_mark, t_box_mix, t_half_var, t_half_pair, t_half_box, t_half_shut, t_half_mark, t_half_mix, t_shut_var, t_shut_pair, t_shut_box, t_shut_half, t_shut_mark, t_shut_mix, t_mark_var, t_mark_pair, t_mark_box, t_mark_half, t_mark_shut, t_mark_mix, t_mix_var, t_mix_pair, t_mix_box, t_mix_half, t_mix_shut, t_mix_mark, e_n2, e_n3, Int.reduceNeg, Bool.or_true, i_str_S, i_str_T, i_str_L, i_str_I, i_int_S, i_int_T, i_int_L, i_int_I, i_bool_S, i_bool_T, i_bool_L, i_bool_I, i_list_S, i_list_T, i_list_L, i_list_I, i_tuple_S, i_tuple_T, i_tuple_L, i_tuple_I, i_dict_S, i_dict_T, i_dict_L, i_dict_I, e_ty_int, e_ty_bool, e_ty_list, e_ty_dict, e_isi2, e_pl3, e_pl4, e_eqB, e_depB, e_ok3, e_r2, e_r3, e_r0, e_for, e_i1, e_p2, e_n0, e_n4, e_ln0, e_ln1, Int.reduceEq, Int.reduceLT, Int.reduceLE, decide_false, Option.isSome_some, Option.isSome_none, Bool.or_self, Bool.true_or, ↓reduceIte, g1, c1]
        exact sp_leaf h leaf
      by_cases c2 : decide (r < 7) = true
      · simp only [e_seq, e_next, e_ret, e_retN, e_if, e_asg, e_own, e_drop, e_c, e_var0, e_varS, e_op, e_test, e_and, e_or, e_not, e_andV, e_orV, e_notV, e_ifE, e_chain, e_nil, e_cons, e_tup, e_lst, e_cb, e_call, e_sl, e_part, e_noPart, e_items, e_rng1, e_lc, e_yes, e_fn, e_rho1, e_rho2, e_rho3, e_rho4, e_isi, e_ints, e_CT, e_lenS, e_lenT, e_lenL, e_addI, e_addS, e_addL, e_int, e_intB, e_ixT, e_ixL, e_ixS, e_at0, e_at1, e_at2, e_slT, e_slL, e_slS, e_tail, e_eqS, e_eqI, e_depS, e_depI, e_isiS, e_isiT, e_isiTT, e_isiTS, e_lcN, e_lcC, e_name, e_repl, e_inT, e_inL, e_inS, e_inTab, e_ixTab, e_is, e_isNot, e_eqv, e_nev, e_starts, D.bl.injEq, D.int.injEq, D.str.injEq, D.tup.injEq, exists_eq_left', exists_eq_left, true_and, and_true, and_self, if_true, if_false, ite_true, ite_false, Bool.false_eq_true, Bool.not_true, Bool.not_false, eq_self, List.set_cons_zero, List.set_cons_succ, List.getElem?_cons_zero, List.getElem?_cons_succ, List.length_cons, List.length_nil, List.replicate_zero, List.map_cons, List.map_nil, List.nil_append, List.cons_append, Nat.reduceAdd, Nat.zero_add, noOwn, wipeR, List.all_cons, List.all_nil, List.any_cons, List.any_nil, Bool.and_true, Bool.or_false, Bool.false_or, Bool.and_self, Bool.xor_false, Bool.false_xor, Bool.true_xor, decide_true, Option.some.injEq, e_itT, e_itL, e_itS, e_pl1, e_pl2, e_ty1, e_ty2, e_ok1, e_ok2, e_min, e_one, e_two, e_three, e_nnT, e_nnS, e_fl1, e_fl2, e_fl3, e_starts, e_st2, t_var_pair, t_var_box, t_var_half, t_var_shut, t_var_mark, t_var_mix, t_pair_var, t_pair_box, t_pair_half, t_pair_shut, t_pair_mark, t_pair_mix, t_box_var, t_box_pair, t_box_half, t_box_shut, t_box_mark, t_box_mix, t_half_var, t_half_pair, t_half_box, t_half_shut, t_half_mark, t_half_mix, t_shut_var, t_shut_pair, t_shut_box, t_shut_half, t_shut_mark, t_shut_mix, t_mark_var, t_mark_pair, t_mark_box, t_mark_half, t_mark_shut, t_mark_mix, t_mix_var, t_mix_pair, t_mix_box, t_mix_half, t_mix_shut, t_mix_mark, e_n2, e_n3, Int.reduceNeg, Bool.or_true, i_str_S, i_str_T, i_str_L, i_str_I, i_int_S, i_int_T, i_int_L, i_int_I, i_bool_S, i_bool_T, i_bool_L, i_bool_I, i_list_S, i_list_T, i_list_L, i_list_I, i_tuple_S, i_tuple_T, i_tuple_L, i_tuple_I, i_dict_S, i_dict_T, i_dict_L, i_dict_I, e_ty_int, e_ty_bool, e_ty_list, e_ty_dict, e_isi2, e_pl3, e_pl4, e_eqB, e_depB, e_ok3, e_r2, e_r3, e_r0, e_for, e_i1, e_p2, e_n0, e_n4, e_ln0, e_ln1, Int.reduceEq, Int.reduceLT, Int.reduceLE, decide_false, Option.isSome_some, Option.isSome_none, Bool.or_self, Bool.true_or, ↓reduceIte, g1, c1, c2]
        refine rec_ _ fun a a1 a2 a3 => ?_
        refine rec_ _ fun b b1 b2 b3 => ?_
        exact q (.pair a b) ⟨a1, b1⟩ (by simp only [Tm.depth]; omega) (by simp only [Tm.size]; omega)
      by_cases c3 : decide (r < 10) = true
      · simp only [e_seq, e_next, e_ret, e_retN, e_if, e_asg, e_own, e_drop, e_c, e_var0, e_varS, e_op, e_test, e_and, e_or, e_not, e_andV, e_orV, e_notV, e_ifE, e_chain, e_nil, e_cons, e_tup, e_lst, e_cb, e_call, e_sl, e_part, e_noPart, e_items, e_rng1, e_lc, e_yes, e_fn, e_rho1, e_rho2, e_rho3, e_rho4, e_isi, e_ints, e_CT, e_lenS, e_lenT, e_lenL, e_addI, e_addS, e_addL, e_int, e_intB, e_ixT, e_ixL, e_ixS, e_at0, e_at1, e_at2, e_slT, e_slL, e_slS, e_tail, e_eqS, e_eqI, e_depS, e_depI, e_isiS, e_isiT, e_isiTT, e_isiTS, e_lcN, e_lcC, e_name, e_repl, e_inT, e_inL, e_inS, e_inTab, e_ixTab, e_is, e_isNot, e_eqv, e_nev, e_starts, D.bl.injEq, D.int.injEq, D.str.injEq, D.tup.injEq, exists_eq_left', exists_eq_left, true_and, and_true, and_self, if_true, if_false, ite_true, ite_false, Bool.false_eq_true, Bool.not_true, Bool.not_false, eq_self, List.set_cons_zero, List.set_cons_succ, List.getElem?_cons_zero, List.getElem?_cons_succ, List.length_cons, List.length_nil, List.replicate_zero, List.map_cons, List.map_nil, List.nil_append, List.cons_append, Nat.reduceAdd, Nat.zero_add, noOwn, wipeR, List.all_cons, List.all_nil, List.any_cons, List.any_nil, Bool.and_true, Bool.or_false, Bool.false_or, Bool.and_self, Bool.xor_false, Bool.false_xor, Bool.true_xor, decide_true, Option.some.injEq, e_itT, e_itL, e_itS, e_pl1, e_pl2, e_ty1, e_ty2, e_ok1, e_ok2, e_min, e_one, e_two, e_three, e_nnT, e_nnS, e_fl1, e_fl2, e_fl3, e_starts, e_st2, t_var_pair, t_var_box, t_var_half, t_var_shut, t_var_mark, t_var_mix, t_pair_var, t_pair_box, t_pair_half, t_pair_shut, t_pair_mark, t_pair_mix, t_box_var, t_box_pair, t_box_half, t_box_shut, t_box_mark, t_box_mix, t_half_var, t_half_pair, t_half_box, t_half_shut, t_half_mark, t_half_mix, t_shut_var, t_shut_pair, t_shut_box, t_shut_half, t_shut_mark, t_shut_mix, t_mark_var, t_mark_pair, t_mark_box, t_mark_half, t_mark_shut, t_mark_mix, t_mix_var, t_mix_pair, t_mix_box, t_mix_half, t_mix_shut, t_mix_mark, e_n2, e_n3, Int.reduceNeg, Bool.or_true, i_str_S, i_str_T, i_str_L, i_str_I, i_int_S, i_int_T, i_int_L, i_int_I, i_bool_S, i_bool_T, i_bool_L, i_bool_I, i_list_S, i_list_T, i_list_L, i_list_I, i_tuple_S, i_tuple_T, i_tuple_L, i_tuple_I, i_dict_S, i_dict_T, i_dict_L, i_dict_I, e_ty_int, e_ty_bool, e_ty_list, e_ty_dict, e_isi2, e_pl3, e_pl4, e_eqB, e_depB, e_ok3, e_r2, e_r3, e_r0, e_for, e_i1, e_p2, e_n0, e_n4, e_ln0, e_ln1, Int.reduceEq, Int.reduceLT, Int.reduceLE, decide_false, Option.isSome_some, Option.isSome_none, Bool.or_self, Bool.true_or, ↓reduceIte, g1, c1, c2, c3, e_draw]
        refine sp_leaf h fun s hs => ?_
        intro z z1 z2
        by_cases c4 : decide (z = 0) = true
        · simp only [e_seq, e_next, e_ret, e_retN, e_if, e_asg, e_own, e_drop, e_c, e_var0, e_varS, e_op, e_test, e_and, e_or, e_not, e_andV, e_orV, e_notV, e_ifE, e_chain, e_nil, e_cons, e_tup, e_lst, e_cb, e_call, e_sl, e_part, e_noPart, e_items, e_rng1, e_lc, e_yes, e_fn, e_rho1, e_rho2, e_rho3, e_rho4, e_isi, e_ints, e_CT, e_lenS, e_lenT, e_lenL, e_addI, e_addS, e_addL, e_int, e_intB, e_ixT, e_ixL, e_ixS, e_at0, e_at1, e_at2, e_slT, e_slL, e_slS, e_tail, e_eqS, e_eqI, e_depS, e_depI, e_isiS, e_isiT, e_isiTT, e_isiTS, e_lcN, e_lcC, e_name, e_repl, e_inT, e_inL, e_inS, e_inTab, e_ixTab, e_is, e_isNot, e_eqv, e_nev, e_starts, D.bl.injEq, D.int.injEq, D.str.injEq, D.tup.injEq, exists_eq_left', exists_eq_left, true_and, and_true, and_self, if_true, if_false, ite_true, ite_false, Bool.false_eq_true, Bool.not_true, Bool.not_false, eq_self, List.set_cons_zero, List.set_cons_succ, List.getElem?_cons_zero, List.getElem?_cons_succ, List.length_cons, List.length_nil, List.replicate_zero, List.map_cons, List.map_nil, List.nil_append, List.cons_append, Nat.reduceAdd, Nat.zero_add, noOwn, wipeR, List.all_cons, List.all_nil, List.any_cons, List.any_nil, Bool.and_true, Bool.or_false, Bool.false_or, Bool.and_self, Bool.xor_false, Bool.false_xor, Bool.true_xor, decide_true, Option.some.injEq, e_itT, e_itL, e_itS, e_pl1, e_pl2, e_ty1, e_ty2, e_ok1, e_ok2, e_min, e_one, e_two, e_three, e_nnT, e_nnS, e_fl1, e_fl2, e_fl3, e_starts, e_st2, t_var_pair, t_var_box, t_var_half, t_var_shut, t_var_mark, t_var_mix, t_pair_var, t_pair_box, t_pair_half, t_pair_shut, t_pair_mark, t_pair_mix, t_box_var, t_box_pair, t_box_half, t_box_shut, t_box_mark, t_box_mix, t_half_var, t_half_pair, t_half_box, t_half_shut, t_half_mark, t_half_mix, t_shut_var, t_shut_pair, t_shut_box, t_shut_half, t_shut_mark, t_shut_mix, t_mark_var, t_mark_pair, t_mark_box, t_mark_half, t_mark_shut, t_mark_mix, t_mix_var, t_mix_pair, t_mix_box, t_mix_half, t_mix_shut, t_mix_mark, e_n2, e_n3, Int.reduceNeg, Bool.or_true, i_str_S, i_str_T, i_str_L, i_str_I, i_int_S, i_int_T, i_int_L, i_int_I, i_bool_S, i_bool_T, i_bool_L, i_bool_I, i_list_S, i_list_T, i_list_L, i_list_I, i_tuple_S, i_tuple_T, i_tuple_L, i_tuple_I, i_dict_S, i_dict_T, i_dict_L, i_dict_I, e_ty_int, e_ty_bool, e_ty_list, e_ty_dict, e_isi2, e_pl3, e_pl4, e_eqB, e_depB, e_ok3, e_r2, e_r3, e_r0, e_for, e_i1, e_p2, e_n0, e_n4, e_ln0, e_ln1, Int.reduceEq, Int.reduceLT, Int.reduceLE, decide_false, Option.isSome_some, Option.isSome_none, Bool.or_self, Bool.true_or, ↓reduceIte, c4]
          refine rec_ _ fun a a1 a2 a3 => ?_
          refine rec_ _ fun b b1 b2 b3 => ?_
          exact q (.box a b) ⟨a1, b1⟩ (by simp only [Tm.depth]; omega) (by simp only [Tm.size]; omega)
        · simp only [e_seq, e_next, e_ret, e_retN, e_if, e_asg, e_own, e_drop, e_c, e_var0, e_varS, e_op, e_test, e_and, e_or, e_not, e_andV, e_orV, e_notV, e_ifE, e_chain, e_nil, e_cons, e_tup, e_lst, e_cb, e_call, e_sl, e_part, e_noPart, e_items, e_rng1, e_lc, e_yes, e_fn, e_rho1, e_rho2, e_rho3, e_rho4, e_isi, e_ints, e_CT, e_lenS, e_lenT, e_lenL, e_addI, e_addS, e_addL, e_int, e_intB, e_ixT, e_ixL, e_ixS, e_at0, e_at1, e_at2, e_slT, e_slL, e_slS, e_tail, e_eqS, e_eqI, e_depS, e_depI, e_isiS, e_isiT, e_isiTT, e_isiTS, e_lcN, e_lcC, e_name, e_repl, e_inT, e_inL, e_inS, e_inTab, e_ixTab, e_is, e_isNot, e_eqv, e_nev, e_starts, D.bl.injEq, D.int.injEq, D.str.injEq, D.tup.injEq, exists_eq_left', exists_eq_left, true_and, and_true, and_self, if_true, if_false, ite_true, ite_false, Bool.false_eq_true, Bool.not_true, Bool.not_false, eq_self, List.set_cons_zero, List.set_cons_succ, List.getElem?_cons_zero, List.getElem?_cons_succ, List.length_cons, List.length_nil, List.replicate_zero, List.map_cons, List.map_nil, List.nil_append, List.cons_append, Nat.reduceAdd, Nat.zero_add, noOwn, wipeR, List.all_cons, List.all_nil, List.any_cons, List.any_nil, Bool.and_true, Bool.or_false, Bool.false_or, Bool.and_self, Bool.xor_false, Bool.false_xor, Bool.true_xor, decide_true, Option.some.injEq, e_itT, e_itL, e_itS, e_pl1, e_pl2, e_ty1, e_ty2, e_ok1, e_ok2, e_min, e_one, e_two, e_three, e_nnT, e_nnS, e_fl1, e_fl2, e_fl3, e_starts, e_st2, t_var_pair, t_var_box, t_var_half, t_var_shut, t_var_mark, t_var_mix, t_pair_var, t_pair_box, t_pair_half, t_pair_shut, t_pair_mark, t_pair_mix, t_box_var, t_box_pair, t_box_half, t_box_shut, t_box_mark, t_box_mix, t_half_var, t_half_pair, t_half_box, t_half_shut, t_half_mark, t_half_mix, t_shut_var, t_shut_pair, t_shut_box, t_shut_half, t_shut_mark, t_shut_mix, t_mark_var, t_mark_pair, t_mark_box, t_mark_half, t_mark_shut, t_mark_mix, t_mix_var, t_mix_pair, t_mix_box, t_mix_half, t_mix_shut, t_mix_mark, e_n2, e_n3, Int.reduceNeg, Bool.or_true, i_str_S, i_str_T, i_str_L, i_str_I, i_int_S, i_int_T, i_int_L, i_int_I, i_bool_S, i_bool_T, i_bool_L, i_bool_I, i_list_S, i_list_T, i_list_L, i_list_I, i_tuple_S, i_tuple_T, i_tuple_L, i_tuple_I, i_dict_S, i_dict_T, i_dict_L, i_dict_I, e_ty_int, e_ty_bool, e_ty_list, e_ty_dict, e_isi2, e_pl3, e_pl4, e_eqB, e_depB, e_ok3, e_r2, e_r3, e_r0, e_for, e_i1, e_p2, e_n0, e_n4, e_ln0, e_ln1, Int.reduceEq, Int.reduceLT, Int.reduceLE, decide_false, Option.isSome_some, Option.isSome_none, Bool.or_self, Bool.true_or, ↓reduceIte, c4]
          refine rec_ _ fun b b1 b2 b3 => ?_
          exact q (.box (.nm s) b) ⟨hs, b1⟩ (by simp only [Tm.depth]; have := Tm.dpos b; omega) (by simp only [Tm.size]; omega)
      simp only [e_seq, e_next, e_ret, e_retN, e_if, e_asg, e_own, e_drop, e_c, e_var0, e_varS, e_op, e_test, e_and, e_or, e_not, e_andV, e_orV, e_notV, e_ifE, e_chain, e_nil, e_cons, e_tup, e_lst, e_cb, e_call, e_sl, e_part, e_noPart, e_items, e_rng1, e_lc, e_yes, e_fn, e_rho1, e_rho2, e_rho3, e_rho4, e_isi, e_ints, e_CT, e_lenS, e_lenT, e_lenL, e_addI, e_addS, e_addL, e_int, e_intB, e_ixT, e_ixL, e_ixS, e_at0, e_at1, e_at2, e_slT, e_slL, e_slS, e_tail, e_eqS, e_eqI, e_depS, e_depI, e_isiS, e_isiT, e_isiTT, e_isiTS, e_lcN, e_lcC, e_name, e_repl, e_inT, e_inL, e_inS, e_inTab, e_ixTab, e_is, e_isNot, e_eqv, e_nev, e_starts, D.bl.injEq, D.int.injEq, D.str.injEq, D.tup.injEq, exists_eq_left', exists_eq_left, true_and, and_true, and_self, if_true, if_false, ite_true, ite_false, Bool.false_eq_true, Bool.not_true, Bool.not_false, eq_self, List.set_cons_zero, List.set_cons_succ, List.getElem?_cons_zero, List.getElem?_cons_succ, List.length_cons, List.length_nil, List.replicate_zero, List.map_cons, List.map_nil, List.nil_append, List.cons_append, Nat.reduceAdd, Nat.zero_add, noOwn, wipeR, List.all_cons, List.all_nil, List.any_cons, List.any_nil, Bool.and_true, Bool.or_false, Bool.false_or, Bool.and_self, Bool.xor_false, Bool.false_xor, Bool.true_xor, decide_true, Option.some.injEq, e_itT, e_itL, e_itS, e_pl1, e_pl2, e_ty1, e_ty2, e_ok1, e_ok2, e_min, e_one, e_two, e_three, e_nnT, e_nnS, e_fl1, e_fl2, e_fl3, e_starts, e_st2, t_var_pair, t_var_box, t_var_half, t_var_shut, t_var_mark, t_var_mix, t_pair_var, t_pair_box, t_pair_half, t_pair_shut, t_pair_mark, t_pair_mix, t_box_var, t_box_pair, t_box_half, t_box_shut, t_box_mark, t_box_mix, t_half_var, t_half_pair, t_half_box, t_half_shut, t_half_mark, t_half_mix, t_shut_var, t_shut_pair, t_shut_box, t_shut_half, t_shut_mark, t_shut_mix, t_mark_var, t_mark_pair, t_mark_box, t_mark_half, t_mark_shut, t_mark_mix, t_mix_var, t_mix_pair, t_mix_box, t_mix_half, t_mix_shut, t_mix_mark, e_n2, e_n3, Int.reduceNeg, Bool.or_true, i_str_S, i_str_T, i_str_L, i_str_I, i_int_S, i_int_T, i_int_L, i_int_I, i_bool_S, i_bool_T, i_bool_L, i_bool_I, i_list_S, i_list_T, i_list_L, i_list_I, i_tuple_S, i_tuple_T, i_tuple_L, i_tuple_I, i_dict_S, i_dict_T, i_dict_L, i_dict_I, e_ty_int, e_ty_bool, e_ty_list, e_ty_dict, e_isi2, e_pl3, e_pl4, e_eqB, e_depB, e_ok3, e_r2, e_r3, e_r0, e_for, e_i1, e_p2, e_n0, e_n4, e_ln0, e_ln1, Int.reduceEq, Int.reduceLT, Int.reduceLE, decide_false, Option.isSome_some, Option.isSome_none, Bool.or_self, Bool.true_or, ↓reduceIte, g1, c1, c2, c3]
      refine sp_leaf h fun s hs => ?_
      by_cases c4 : decide (r = 10) = true
      · simp only [e_seq, e_next, e_ret, e_retN, e_if, e_asg, e_own, e_drop, e_c, e_var0, e_varS, e_op, e_test, e_and, e_or, e_not, e_andV, e_orV, e_notV, e_ifE, e_chain, e_nil, e_cons, e_tup, e_lst, e_cb, e_call, e_sl, e_part, e_noPart, e_items, e_rng1, e_lc, e_yes, e_fn, e_rho1, e_rho2, e_rho3, e_rho4, e_isi, e_ints, e_CT, e_lenS, e_lenT, e_lenL, e_addI, e_addS, e_addL, e_int, e_intB, e_ixT, e_ixL, e_ixS, e_at0, e_at1, e_at2, e_slT, e_slL, e_slS, e_tail, e_eqS, e_eqI, e_depS, e_depI, e_isiS, e_isiT, e_isiTT, e_isiTS, e_lcN, e_lcC, e_name, e_repl, e_inT, e_inL, e_inS, e_inTab, e_ixTab, e_is, e_isNot, e_eqv, e_nev, e_starts, D.bl.injEq, D.int.injEq, D.str.injEq, D.tup.injEq, exists_eq_left', exists_eq_left, true_and, and_true, and_self, if_true, if_false, ite_true, ite_false, Bool.false_eq_true, Bool.not_true, Bool.not_false, eq_self, List.set_cons_zero, List.set_cons_succ, List.getElem?_cons_zero, List.getElem?_cons_succ, List.length_cons, List.length_nil, List.replicate_zero, List.map_cons, List.map_nil, List.nil_append, List.cons_append, Nat.reduceAdd, Nat.zero_add, noOwn, wipeR, List.all_cons, List.all_nil, List.any_cons, List.any_nil, Bool.and_true, Bool.or_false, Bool.false_or, Bool.and_self, Bool.xor_false, Bool.false_xor, Bool.true_xor, decide_true, Option.some.injEq, e_itT, e_itL, e_itS, e_pl1, e_pl2, e_ty1, e_ty2, e_ok1, e_ok2, e_min, e_one, e_two, e_three, e_nnT, e_nnS, e_fl1, e_fl2, e_fl3, e_starts, e_st2, t_var_pair, t_var_box, t_var_half, t_var_shut, t_var_mark, t_var_mix, t_pair_var, t_pair_box, t_pair_half, t_pair_shut, t_pair_mark, t_pair_mix, t_box_var, t_box_pair, t_box_half, t_box_shut, t_box_mark, t_box_mix, t_half_var, t_half_pair, t_half_box, t_half_shut, t_half_mark, t_half_mix, t_shut_var, t_shut_pair, t_shut_box, t_shut_half, t_shut_mark, t_shut_mix, t_mark_var, t_mark_pair, t_mark_box, t_mark_half, t_mark_shut, t_mark_mix, t_mix_var, t_mix_pair, t_mix_box, t_mix_half, t_mix_shut, t_mix_mark, e_n2, e_n3, Int.reduceNeg, Bool.or_true, i_str_S, i_str_T, i_str_L, i_str_I, i_int_S, i_int_T, i_int_L, i_int_I, i_bool_S, i_bool_T, i_bool_L, i_bool_I, i_list_S, i_list_T, i_list_L, i_list_I, i_tuple_S, i_tuple_T, i_tuple_L, i_tuple_I, i_dict_S, i_dict_T, i_dict_L, i_dict_I, e_ty_int, e_ty_bool, e_ty_list, e_ty_dict, e_isi2, e_pl3, e_pl4, e_eqB, e_depB, e_ok3, e_r2, e_r3, e_r0, e_for, e_i1, e_p2, e_n0, e_n4, e_ln0, e_ln1, Int.reduceEq, Int.reduceLT, Int.reduceLE, decide_false, Option.isSome_some, Option.isSome_none, Bool.or_self, Bool.true_or, ↓reduceIte, c4]
        exact q (.half s) hs (by simp only [Tm.depth]; omega) (by simp only [Tm.size]; omega)
      simp only [e_seq, e_next, e_ret, e_retN, e_if, e_asg, e_own, e_drop, e_c, e_var0, e_varS, e_op, e_test, e_and, e_or, e_not, e_andV, e_orV, e_notV, e_ifE, e_chain, e_nil, e_cons, e_tup, e_lst, e_cb, e_call, e_sl, e_part, e_noPart, e_items, e_rng1, e_lc, e_yes, e_fn, e_rho1, e_rho2, e_rho3, e_rho4, e_isi, e_ints, e_CT, e_lenS, e_lenT, e_lenL, e_addI, e_addS, e_addL, e_int, e_intB, e_ixT, e_ixL, e_ixS, e_at0, e_at1, e_at2, e_slT, e_slL, e_slS, e_tail, e_eqS, e_eqI, e_depS, e_depI, e_isiS, e_isiT, e_isiTT, e_isiTS, e_lcN, e_lcC, e_name, e_repl, e_inT, e_inL, e_inS, e_inTab, e_ixTab, e_is, e_isNot, e_eqv, e_nev, e_starts, D.bl.injEq, D.int.injEq, D.str.injEq, D.tup.injEq, exists_eq_left', exists_eq_left, true_and, and_true, and_self, if_true, if_false, ite_true, ite_false, Bool.false_eq_true, Bool.not_true, Bool.not_false, eq_self, List.set_cons_zero, List.set_cons_succ, List.getElem?_cons_zero, List.getElem?_cons_succ, List.length_cons, List.length_nil, List.replicate_zero, List.map_cons, List.map_nil, List.nil_append, List.cons_append, Nat.reduceAdd, Nat.zero_add, noOwn, wipeR, List.all_cons, List.all_nil, List.any_cons, List.any_nil, Bool.and_true, Bool.or_false, Bool.false_or, Bool.and_self, Bool.xor_false, Bool.false_xor, Bool.true_xor, decide_true, Option.some.injEq, e_itT, e_itL, e_itS, e_pl1, e_pl2, e_ty1, e_ty2, e_ok1, e_ok2, e_min, e_one, e_two, e_three, e_nnT, e_nnS, e_fl1, e_fl2, e_fl3, e_starts, e_st2, t_var_pair, t_var_box, t_var_half, t_var_shut, t_var_mark, t_var_mix, t_pair_var, t_pair_box, t_pair_half, t_pair_shut, t_pair_mark, t_pair_mix, t_box_var, t_box_pair, t_box_half, t_box_shut, t_box_mark, t_box_mix, t_half_var, t_half_pair, t_half_box, t_half_shut, t_half_mark, t_half_mix, t_shut_var, t_shut_pair, t_shut_box, t_shut_half, t_shut_mark, t_shut_mix, t_mark_var, t_mark_pair, t_mark_box, t_mark_half, t_mark_shut, t_mark_mix, t_mix_var, t_mix_pair, t_mix_box, t_mix_half, t_mix_shut, t_mix_mark, e_n2, e_n3, Int.reduceNeg, Bool.or_true, i_str_S, i_str_T, i_str_L, i_str_I, i_int_S, i_int_T, i_int_L, i_int_I, i_bool_S, i_bool_T, i_bool_L, i_bool_I, i_list_S, i_list_T, i_list_L, i_list_I, i_tuple_S, i_tuple_T, i_tuple_L, i_tuple_I, i_dict_S, i_dict_T, i_dict_L, i_dict_I, e_ty_int, e_ty_bool, e_ty_list, e_ty_dict, e_isi2, e_pl3, e_pl4, e_eqB, e_depB, e_ok3, e_r2, e_r3, e_r0, e_for, e_i1, e_p2, e_n0, e_n4, e_ln0, e_ln1, Int.reduceEq, Int.reduceLT, Int.reduceLE, decide_false, Option.isSome_some, Option.isSome_none, Bool.or_self, Bool.true_or, ↓reduceIte, c4]
      refine rec_ _ fun a a1 a2 a3 => ?_
      by_cases c5 : decide (r = 11) = true
      · simp only [e_seq, e_next, e_ret, e_retN, e_if, e_asg, e_own, e_drop, e_c, e_var0, e_varS, e_op, e_test, e_and, e_or, e_not, e_andV, e_orV, e_notV, e_ifE, e_chain, e_nil, e_cons, e_tup, e_lst, e_cb, e_call, e_sl, e_part, e_noPart, e_items, e_rng1, e_lc, e_yes, e_fn, e_rho1, e_rho2, e_rho3, e_rho4, e_isi, e_ints, e_CT, e_lenS, e_lenT, e_lenL, e_addI, e_addS, e_addL, e_int, e_intB, e_ixT, e_ixL, e_ixS, e_at0, e_at1, e_at2, e_slT, e_slL, e_slS, e_tail, e_eqS, e_eqI, e_depS, e_depI, e_isiS, e_isiT, e_isiTT, e_isiTS, e_lcN, e_lcC, e_name, e_repl, e_inT, e_inL, e_inS, e_inTab, e_ixTab, e_is, e_isNot, e_eqv, e_nev, e_starts, D.bl.injEq, D.int.injEq, D.str.injEq, D.tup.injEq, exists_eq_left', exists_eq_left, true_and, and_true, and_self, if_true, if_false, ite_true, ite_false, Bool.false_eq_true, Bool.not_true, Bool.not_false, eq_self, List.set_cons_zero, List.set_cons_succ, List.getElem?_cons_zero, List.getElem?_cons_succ, List.length_cons, List.length_nil, List.replicate_zero, List.map_cons, List.map_nil, List.nil_append, List.cons_append, Nat.reduceAdd, Nat.zero_add, noOwn, wipeR, List.all_cons, List.all_nil, List.any_cons, List.any_nil, Bool.and_true, Bool.or_false, Bool.false_or, Bool.and_self, Bool.xor_false, Bool.false_xor, Bool.true_xor, decide_true, Option.some.injEq, e_itT, e_itL, e_itS, e_pl1, e_pl2, e_ty1, e_ty2, e_ok1, e_ok2, e_min, e_one, e_two, e_three, e_nnT, e_nnS, e_fl1, e_fl2, e_fl3, e_starts, e_st2, t_var_pair, t_var_box, t_var_half, t_var_shut, t_var_mark, t_var_mix, t_pair_var, t_pair_box, t_pair_half, t_pair_shut, t_pair_mark, t_pair_mix, t_box_var, t_box_pair, t_box_half, t_box_shut, t_box_mark, t_box_mix, t_half_var, t_half_pair, t_half_box, t_half_shut, t_half_mark, t_half_mix, t_shut_var, t_shut_pair, t_shut_box, t_shut_half, t_shut_mark, t_shut_mix, t_mark_var, t_mark_pair, t_mark_box, t_mark_half, t_mark_shut, t_mark_mix, t_mix_var, t_mix_pair, t_mix_box, t_mix_half, t_mix_shut, t_mix_mark, e_n2, e_n3, Int.reduceNeg, Bool.or_true, i_str_S, i_str_T, i_str_L, i_str_I, i_int_S, i_int_T, i_int_L, i_int_I, i_bool_S, i_bool_T, i_bool_L, i_bool_I, i_list_S, i_list_T, i_list_L, i_list_I, i_tuple_S, i_tuple_T, i_tuple_L, i_tuple_I, i_dict_S, i_dict_T, i_dict_L, i_dict_I, e_ty_int, e_ty_bool, e_ty_list, e_ty_dict, e_isi2, e_pl3, e_pl4, e_eqB, e_depB, e_ok3, e_r2, e_r3, e_r0, e_for, e_i1, e_p2, e_n0, e_n4, e_ln0, e_ln1, Int.reduceEq, Int.reduceLT, Int.reduceLE, decide_false, Option.isSome_some, Option.isSome_none, Bool.or_self, Bool.true_or, ↓reduceIte, c5]
        exact q (.shut s a) ⟨hs, a1⟩ (by simp only [Tm.depth]; have := Tm.dpos a; omega) (by simp only [Tm.size]; omega)
      by_cases c6 : decide (r = 12) = true
      · simp only [e_seq, e_next, e_ret, e_retN, e_if, e_asg, e_own, e_drop, e_c, e_var0, e_varS, e_op, e_test, e_and, e_or, e_not, e_andV, e_orV, e_notV, e_ifE, e_chain, e_nil, e_cons, e_tup, e_lst, e_cb, e_call, e_sl, e_part, e_noPart, e_items, e_rng1, e_lc, e_yes, e_fn, e_rho1, e_rho2, e_rho3, e_rho4, e_isi, e_ints, e_CT, e_lenS, e_lenT, e_lenL, e_addI, e_addS, e_addL, e_int, e_intB, e_ixT, e_ixL, e_ixS, e_at0, e_at1, e_at2, e_slT, e_slL, e_slS, e_tail, e_eqS, e_eqI, e_depS, e_depI, e_isiS, e_isiT, e_isiTT, e_isiTS, e_lcN, e_lcC, e_name, e_repl, e_inT, e_inL, e_inS, e_inTab, e_ixTab, e_is, e_isNot, e_eqv, e_nev, e_starts, D.bl.injEq, D.int.injEq, D.str.injEq, D.tup.injEq, exists_eq_left', exists_eq_left, true_and, and_true, and_self, if_true, if_false, ite_true, ite_false, Bool.false_eq_true, Bool.not_true, Bool.not_false, eq_self, List.set_cons_zero, List.set_cons_succ, List.getElem?_cons_zero, List.getElem?_cons_succ, List.length_cons, List.length_nil, List.replicate_zero, List.map_cons, List.map_nil, List.nil_append, List.cons_append, Nat.reduceAdd, Nat.zero_add, noOwn, wipeR, List.all_cons, List.all_nil, List.any_cons, List.any_nil, Bool.and_true, Bool.or_false, Bool.false_or, Bool.and_self, Bool.xor_false, Bool.false_xor, Bool.true_xor, decide_true, Option.some.injEq, e_itT, e_itL, e_itS, e_pl1, e_pl2, e_ty1, e_ty2, e_ok1, e_ok2, e_min, e_one, e_two, e_three, e_nnT, e_nnS, e_fl1, e_fl2, e_fl3, e_starts, e_st2, t_var_pair, t_var_box, t_var_half, t_var_shut, t_var_mark, t_var_mix, t_pair_var, t_pair_box, t_pair_half, t_pair_shut, t_pair_mark, t_pair_mix, t_box_var, t_box_pair, t_box_half, t_box_shut, t_box_mark, t_box_mix, t_half_var, t_half_pair, t_half_box, t_half_shut, t_half_mark, t_half_mix, t_shut_var, t_shut_pair, t_shut_box, t_shut_half, t_shut_mark, t_shut_mix, t_mark_var, t_mark_pair, t_mark_box, t_mark_half, t_mark_shut, t_mark_mix, t_mix_var, t_mix_pair, t_mix_box, t_mix_half, t_mix_shut, t_mix_mark, e_n2, e_n3, Int.reduceNeg, Bool.or_true, i_str_S, i_str_T, i_str_L, i_str_I, i_int_S, i_int_T, i_int_L, i_int_I, i_bool_S, i_bool_T, i_bool_L, i_bool_I, i_list_S, i_list_T, i_list_L, i_list_I, i_tuple_S, i_tuple_T, i_tuple_L, i_tuple_I, i_dict_S, i_dict_T, i_dict_L, i_dict_I, e_ty_int, e_ty_bool, e_ty_list, e_ty_dict, e_isi2, e_pl3, e_pl4, e_eqB, e_depB, e_ok3, e_r2, e_r3, e_r0, e_for, e_i1, e_p2, e_n0, e_n4, e_ln0, e_ln1, Int.reduceEq, Int.reduceLT, Int.reduceLE, decide_false, Option.isSome_some, Option.isSome_none, Bool.or_self, Bool.true_or, ↓reduceIte, c5, c6]
        exact q (.mark s a) ⟨hs, a1⟩ (by simp only [Tm.depth]; have := Tm.dpos a; omega) (by simp only [Tm.size]; omega)
      simp only [e_seq, e_next, e_ret, e_retN, e_if, e_asg, e_own, e_drop, e_c, e_var0, e_varS, e_op, e_test, e_and, e_or, e_not, e_andV, e_orV, e_notV, e_ifE, e_chain, e_nil, e_cons, e_tup, e_lst, e_cb, e_call, e_sl, e_part, e_noPart, e_items, e_rng1, e_lc, e_yes, e_fn, e_rho1, e_rho2, e_rho3, e_rho4, e_isi, e_ints, e_CT, e_lenS, e_lenT, e_lenL, e_addI, e_addS, e_addL, e_int, e_intB, e_ixT, e_ixL, e_ixS, e_at0, e_at1, e_at2, e_slT, e_slL, e_slS, e_tail, e_eqS, e_eqI, e_depS, e_depI, e_isiS, e_isiT, e_isiTT, e_isiTS, e_lcN, e_lcC, e_name, e_repl, e_inT, e_inL, e_inS, e_inTab, e_ixTab, e_is, e_isNot, e_eqv, e_nev, e_starts, D.bl.injEq, D.int.injEq, D.str.injEq, D.tup.injEq, exists_eq_left', exists_eq_left, true_and, and_true, and_self, if_true, if_false, ite_true, ite_false, Bool.false_eq_true, Bool.not_true, Bool.not_false, eq_self, List.set_cons_zero, List.set_cons_succ, List.getElem?_cons_zero, List.getElem?_cons_succ, List.length_cons, List.length_nil, List.replicate_zero, List.map_cons, List.map_nil, List.nil_append, List.cons_append, Nat.reduceAdd, Nat.zero_add, noOwn, wipeR, List.all_cons, List.all_nil, List.any_cons, List.any_nil, Bool.and_true, Bool.or_false, Bool.false_or, Bool.and_self, Bool.xor_false, Bool.false_xor, Bool.true_xor, decide_true, Option.some.injEq, e_itT, e_itL, e_itS, e_pl1, e_pl2, e_ty1, e_ty2, e_ok1, e_ok2, e_min, e_one, e_two, e_three, e_nnT, e_nnS, e_fl1, e_fl2, e_fl3, e_starts, e_st2, t_var_pair, t_var_box, t_var_half, t_var_shut, t_var_mark, t_var_mix, t_pair_var, t_pair_box, t_pair_half, t_pair_shut, t_pair_mark, t_pair_mix, t_box_var, t_box_pair, t_box_half, t_box_shut, t_box_mark, t_box_mix, t_half_var, t_half_pair, t_half_box, t_half_shut, t_half_mark, t_half_mix, t_shut_var, t_shut_pair, t_shut_box, t_shut_half, t_shut_mark, t_shut_mix, t_mark_var, t_mark_pair, t_mark_box, t_mark_half, t_mark_shut, t_mark_mix, t_mix_var, t_mix_pair, t_mix_box, t_mix_half, t_mix_shut, t_mix_mark, e_n2, e_n3, Int.reduceNeg, Bool.or_true, i_str_S, i_str_T, i_str_L, i_str_I, i_int_S, i_int_T, i_int_L, i_int_I, i_bool_S, i_bool_T, i_bool_L, i_bool_I, i_list_S, i_list_T, i_list_L, i_list_I, i_tuple_S, i_tuple_T, i_tuple_L, i_tuple_I, i_dict_S, i_dict_T, i_dict_L, i_dict_I, e_ty_int, e_ty_bool, e_ty_list, e_ty_dict, e_isi2, e_pl3, e_pl4, e_eqB, e_depB, e_ok3, e_r2, e_r3, e_r0, e_for, e_i1, e_p2, e_n0, e_n4, e_ln0, e_ln1, Int.reduceEq, Int.reduceLT, Int.reduceLE, decide_false, Option.isSome_some, Option.isSome_none, Bool.or_self, Bool.true_or, ↓reduceIte, c5, c6]
      exact q (.mix a) a1 (by simp only [Tm.depth]; omega) (by simp only [Tm.size]; omega)
theorem sp_term {l : List (List Nat)} (h : Nms l) (k : Nat) (i : Int) {Xd : Err → Prop} {Q : D → Prop} (hi : i = (k : Int) + 1) (hk : k < 5) (q : ∀ t : Tm, t.ok → t.depth ≤ (k : Int) + 1 → t.size ≤ (2 ^ k : Nat) → Q t.d) : m_law_term [.bag, .lst (nmD l), .int i] Xd Q := by
  simp only [e_seq, e_next, e_ret, e_retN, e_if, e_asg, e_own, e_drop, e_c, e_var0, e_varS, e_op, e_test, e_and, e_or, e_not, e_andV, e_orV, e_notV, e_ifE, e_chain, e_nil, e_cons, e_tup, e_lst, e_cb, e_call, e_sl, e_part, e_noPart, e_items, e_rng1, e_lc, e_yes, e_fn, e_rho1, e_rho2, e_rho3, e_rho4, e_isi, e_ints, e_CT, e_lenS, e_lenT, e_lenL, e_addI, e_addS, e_addL, e_int, e_intB, e_ixT, e_ixL, e_ixS, e_at0, e_at1, e_at2, e_slT, e_slL, e_slS, e_tail, e_eqS, e_eqI, e_depS, e_depI, e_isiS, e_isiT, e_isiTT, e_isiTS, e_lcN, e_lcC, e_name, e_repl, e_inT, e_inL, e_inS, e_inTab, e_ixTab, e_is, e_isNot, e_eqv, e_nev, e_starts, D.bl.injEq, D.int.injEq, D.str.injEq, D.tup.injEq, exists_eq_left', exists_eq_left, true_and, and_true, and_self, if_true, if_false, ite_true, ite_false, Bool.false_eq_true, Bool.not_true, Bool.not_false, eq_self, List.set_cons_zero, List.set_cons_succ, List.getElem?_cons_zero, List.getElem?_cons_succ, List.length_cons, List.length_nil, List.replicate_zero, List.map_cons, List.map_nil, List.nil_append, List.cons_append, Nat.reduceAdd, Nat.zero_add, noOwn, wipeR, List.all_cons, List.all_nil, List.any_cons, List.any_nil, Bool.and_true, Bool.or_false, Bool.false_or, Bool.and_self, Bool.xor_false, Bool.false_xor, Bool.true_xor, decide_true, Option.some.injEq, e_itT, e_itL, e_itS, e_pl1, e_pl2, e_ty1, e_ty2, e_ok1, e_ok2, e_min, e_one, e_two, e_three, e_nnT, e_nnS, e_fl1, e_fl2, e_fl3, e_starts, e_st2, t_var_pair, t_var_box, t_var_half, t_var_shut, t_var_mark, t_var_mix, t_pair_var, t_pair_box, t_pair_half, t_pair_shut, t_pair_mark, t_pair_mix, t_box_var, t_box_pair, t_box_half, t_box_shut, t_box_mark, t_box_mix, t_half_var, t_half_pair, t_half_box, t_half_shut, t_half_mark, t_half_mix, t_shut_var, t_shut_pair, t_shut_box, t_shut_half, t_shut_mark, t_shut_mix, t_mark_var, t_mark_pair, t_mark_box, t_mark_half, t_mark_shut, t_mark_mix, t_mix_var, t_mix_pair, t_mix_box, t_mix_half, t_mix_shut, t_mix_mark, e_n2, e_n3, Int.reduceNeg, Bool.or_true, i_str_S, i_str_T, i_str_L, i_str_I, i_int_S, i_int_T, i_int_L, i_int_I, i_bool_S, i_bool_T, i_bool_L, i_bool_I, i_list_S, i_list_T, i_list_L, i_list_I, i_tuple_S, i_tuple_T, i_tuple_L, i_tuple_I, i_dict_S, i_dict_T, i_dict_L, i_dict_I, e_ty_int, e_ty_bool, e_ty_list, e_ty_dict, e_isi2, e_pl3, e_pl4, e_eqB, e_depB, e_ok3, e_r2, e_r3, e_r0, e_for, e_i1, e_p2, e_n0, e_n4, e_ln0, e_ln1, Int.reduceEq, Int.reduceLT, Int.reduceLE, decide_false, Option.isSome_some, Option.isSome_none, Bool.or_self, Bool.true_or, ↓reduceIte, m_law_term, Nat.zero_le]
  exact sp_pattern h k 5 i _ _ hi hk q
/-! ### the law's names -/
theorem letters {c : Nat} : c ∈ ("abcdefghijklmnoprstuvwxyz" : Str).cps.toList → 97 ≤ c ∧ c ≤ 122 := by
  have e : ("abcdefghijklmnoprstuvwxyz" : Str).cps.toList = [97, 98, 99, 100, 101, 102, 103, 104, 105, 106, 107, 108, 109, 110, 111, 112, 114, 115, 116, 117, 118, 119, 120, 121, 122] := by kernel_rfl
  rw [e]
  simp only [List.mem_cons, List.not_mem_nil, or_false]
  omega
theorem letters_len : ("abcdefghijklmnoprstuvwxyz" : Str).cps.toList.length = 25 := by kernel_rfl
theorem lc_draw {de : DE} {ρ : Rho} {R : List D → Prop} (hde : ∀ (d : D) (S : D → Prop), (∀ c, 97 ≤ c ∧ c ≤ 122 → S (.str (St [c]))) → de (ρ.set 7 (some (.val d))) (fun _ => False) S) : ∀ (ds : List D) (acc : List Nat), (∀ c ∈ acc, 97 ≤ c ∧ c ≤ 122) → acc.length + ds.length ≤ 8 → (∀ l : List Nat, l.length = acc.length + ds.length → (∀ c ∈ l, 97 ≤ c ∧ c ≤ 122) → R (l.map fun c => .str (St [c]))) → lcD (tName 7) dYes de ds (acc.map fun c => .str (St [c])) ρ R
  | [], acc, ha, hl, k => by
    simp only [e_seq, e_next, e_ret, e_retN, e_if, e_asg, e_own, e_drop, e_c, e_var0, e_varS, e_op, e_test, e_and, e_or, e_not, e_andV, e_orV, e_notV, e_ifE, e_chain, e_nil, e_cons, e_tup, e_lst, e_cb, e_call, e_sl, e_part, e_noPart, e_items, e_rng1, e_lc, e_yes, e_fn, e_rho1, e_rho2, e_rho3, e_rho4, e_isi, e_ints, e_CT, e_lenS, e_lenT, e_lenL, e_addI, e_addS, e_addL, e_int, e_intB, e_ixT, e_ixL, e_ixS, e_at0, e_at1, e_at2, e_slT, e_slL, e_slS, e_tail, e_eqS, e_eqI, e_depS, e_depI, e_isiS, e_isiT, e_isiTT, e_isiTS, e_lcN, e_lcC, e_name, e_repl, e_inT, e_inL, e_inS, e_inTab, e_ixTab, e_is, e_isNot, e_eqv, e_nev, e_starts, D.bl.injEq, D.int.injEq, D.str.injEq, D.tup.injEq, exists_eq_left', exists_eq_left, true_and, and_true, and_self, if_true, if_false, ite_true, ite_false, Bool.false_eq_true, Bool.not_true, Bool.not_false, eq_self, List.set_cons_zero, List.set_cons_succ, List.getElem?_cons_zero, List.getElem?_cons_succ, List.length_cons, List.length_nil, List.replicate_zero, List.map_cons, List.map_nil, List.nil_append, List.cons_append, Nat.reduceAdd, Nat.zero_add, noOwn, wipeR, List.all_cons, List.all_nil, List.any_cons, List.any_nil, Bool.and_true, Bool.or_false, Bool.false_or, Bool.and_self, Bool.xor_false, Bool.false_xor, Bool.true_xor, decide_true, Option.some.injEq, e_itT, e_itL, e_itS, e_pl1, e_pl2, e_ty1, e_ty2, e_ok1, e_ok2, e_min, e_one, e_two, e_three, e_nnT, e_nnS, e_fl1, e_fl2, e_fl3, e_starts, e_st2, t_var_pair, t_var_box, t_var_half, t_var_shut, t_var_mark, t_var_mix, t_pair_var, t_pair_box, t_pair_half, t_pair_shut, t_pair_mark, t_pair_mix, t_box_var, t_box_pair, t_box_half, t_box_shut, t_box_mark, t_box_mix, t_half_var, t_half_pair, t_half_box, t_half_shut, t_half_mark, t_half_mix, t_shut_var, t_shut_pair, t_shut_box, t_shut_half, t_shut_mark, t_shut_mix, t_mark_var, t_mark_pair, t_mark_box, t_mark_half, t_mark_shut, t_mark_mix, t_mix_var, t_mix_pair, t_mix_box, t_mix_half, t_mix_shut, t_mix_mark, e_n2, e_n3, Int.reduceNeg, Bool.or_true, i_str_S, i_str_T, i_str_L, i_str_I, i_int_S, i_int_T, i_int_L, i_int_I, i_bool_S, i_bool_T, i_bool_L, i_bool_I, i_list_S, i_list_T, i_list_L, i_list_I, i_tuple_S, i_tuple_T, i_tuple_L, i_tuple_I, i_dict_S, i_dict_T, i_dict_L, i_dict_I, e_ty_int, e_ty_bool, e_ty_list, e_ty_dict, e_isi2, e_pl3, e_pl4, e_eqB, e_depB, e_ok3, e_r2, e_r3, e_r0, e_for, e_i1, e_p2, e_n0, e_n4, e_ln0, e_ln1, Int.reduceEq, Int.reduceLT, Int.reduceLE, decide_false, Option.isSome_some, Option.isSome_none, Bool.or_self, Bool.true_or, ↓reduceIte]
    exact k acc (by simp) ha
  | d :: r, acc, ha, hl, k => by
    simp only [e_seq, e_next, e_ret, e_retN, e_if, e_asg, e_own, e_drop, e_c, e_var0, e_varS, e_op, e_test, e_and, e_or, e_not, e_andV, e_orV, e_notV, e_ifE, e_chain, e_nil, e_cons, e_tup, e_lst, e_cb, e_call, e_sl, e_part, e_noPart, e_items, e_rng1, e_lc, e_yes, e_fn, e_rho1, e_rho2, e_rho3, e_rho4, e_isi, e_ints, e_CT, e_lenS, e_lenT, e_lenL, e_addI, e_addS, e_addL, e_int, e_intB, e_ixT, e_ixL, e_ixS, e_at0, e_at1, e_at2, e_slT, e_slL, e_slS, e_tail, e_eqS, e_eqI, e_depS, e_depI, e_isiS, e_isiT, e_isiTT, e_isiTS, e_lcN, e_lcC, e_name, e_repl, e_inT, e_inL, e_inS, e_inTab, e_ixTab, e_is, e_isNot, e_eqv, e_nev, e_starts, D.bl.injEq, D.int.injEq, D.str.injEq, D.tup.injEq, exists_eq_left', exists_eq_left, true_and, and_true, and_self, if_true, if_false, ite_true, ite_false, Bool.false_eq_true, Bool.not_true, Bool.not_false, eq_self, List.set_cons_zero, List.set_cons_succ, List.getElem?_cons_zero, List.getElem?_cons_succ, List.length_cons, List.length_nil, List.replicate_zero, List.map_cons, List.map_nil, List.nil_append, List.cons_append, Nat.reduceAdd, Nat.zero_add, noOwn, wipeR, List.all_cons, List.all_nil, List.any_cons, List.any_nil, Bool.and_true, Bool.or_false, Bool.false_or, Bool.and_self, Bool.xor_false, Bool.false_xor, Bool.true_xor, decide_true, Option.some.injEq, e_itT, e_itL, e_itS, e_pl1, e_pl2, e_ty1, e_ty2, e_ok1, e_ok2, e_min, e_one, e_two, e_three, e_nnT, e_nnS, e_fl1, e_fl2, e_fl3, e_starts, e_st2, t_var_pair, t_var_box, t_var_half, t_var_shut, t_var_mark, t_var_mix, t_pair_var, t_pair_box, t_pair_half, t_pair_shut, t_pair_mark, t_pair_mix, t_box_var, t_box_pair, t_box_half, t_box_shut, t_box_mark, t_box_mix, t_half_var, t_half_pair, t_half_box, t_half_shut, t_half_mark, t_half_mix, t_shut_var, t_shut_pair, t_shut_box, t_shut_half, t_shut_mark, t_shut_mix, t_mark_var, t_mark_pair, t_mark_box, t_mark_half, t_mark_shut, t_mark_mix, t_mix_var, t_mix_pair, t_mix_box, t_mix_half, t_mix_shut, t_mix_mark, e_n2, e_n3, Int.reduceNeg, Bool.or_true, i_str_S, i_str_T, i_str_L, i_str_I, i_int_S, i_int_T, i_int_L, i_int_I, i_bool_S, i_bool_T, i_bool_L, i_bool_I, i_list_S, i_list_T, i_list_L, i_list_I, i_tuple_S, i_tuple_T, i_tuple_L, i_tuple_I, i_dict_S, i_dict_T, i_dict_L, i_dict_I, e_ty_int, e_ty_bool, e_ty_list, e_ty_dict, e_isi2, e_pl3, e_pl4, e_eqB, e_depB, e_ok3, e_r2, e_r3, e_r0, e_for, e_i1, e_p2, e_n0, e_n4, e_ln0, e_ln1, Int.reduceEq, Int.reduceLT, Int.reduceLE, decide_false, Option.isSome_some, Option.isSome_none, Bool.or_self, Bool.true_or, ↓reduceIte]
    refine hde d _ fun c hc => ⟨?_, ?_⟩
    · simp at hl ⊢
      exact Nat.lt_of_lt_of_le (show acc.length < 9 by omega) (by decide)
    · have e : (acc.map fun c => D.str (St [c])) ++ [D.str (St [c])] = (acc ++ [c]).map fun c => D.str (St [c]) := by simp
      rw [e]
      refine lc_draw hde r (acc ++ [c]) (fun x hx => ?_) (by simp at hl ⊢; omega) (fun l h1 h2 => k l (by simp at h1 ⊢; omega) h2)
      rcases List.mem_append.mp hx with z | z
      · exact ha x z
      · have : x = c := by simpa using z
        rw [this]
        exact hc
theorem k_empty : (Str.ofString "").cps = #[] := by kernel_rfl
theorem join_signs (l : List Nat) : Txt.join (Str.ofString "") (l.map fun c => St [c]) = St l := by
  have key : ∀ (r : List Nat) (x : List Nat), (r.map fun c => St [c]).foldl (fun acc p => acc ++ (Str.ofString "").cps ++ p.cps) x.toArray = (x ++ r).toArray := by
    intro r
    induction r with
    | nil => intro x; simp
    | cons c r ih =>
      intro x
      have := ih (x ++ [c])
      rw [List.map_cons, List.foldl_cons]
      have e : x.toArray ++ (Str.ofString "").cps ++ (St [c]).cps = (x ++ [c]).toArray := by
        rw [k_empty]
        simp [HD.St]
      rw [e, this]
      simp
  unfold Txt.join PySem.Builtin.Str.glued
  cases l with
  | nil => rfl
  | cons c r =>
    have := key r [c]
    simp only [List.map_cons, List.drop_succ_cons, List.drop_zero, List.headD_cons]
    show (⟨(r.map fun c => St [c]).foldl (fun acc p => acc ++ (Str.ofString "").cps ++ p.cps) [c].toArray⟩ : Str) = _
    rw [this]
    rfl
theorem lc_filter {tg : DG} {u : DT} {a : DE} {ρ : Rho} {R : List D → Prop} (f : D → D) (g : D → Bool) : ∀ (ds acc : List D), (∀ d ∈ ds, ∀ (S : D → Prop) (N : Prop), (if g d = true then S (f d) else N) → tg d ρ fun ρ1 => u ρ1 (fun _ => False) fun c => if c = true then a ρ1 (fun _ => False) S else N) →
    acc.length + ds.length ≤ sizeLine → R (acc ++ (ds.filter g).map f) → lcD tg u a ds acc ρ R
  | [], acc, _, _, h => by simpa using h
  | d :: r, acc, hf, hl, h => by
    refine hf d (List.mem_cons_self ..) (fun y => acc.length < sizeLine ∧ lcD tg u a r (acc ++ [y]) ρ R) _ ?_
    cases z : g d with
    | true =>
      rw [if_pos rfl]
      rw [List.filter_cons_of_pos z] at h
      refine ⟨by simp at hl; omega, lc_filter f g r (acc ++ [f d]) (fun d' hd => hf d' (List.mem_cons_of_mem _ hd)) (by simp at hl ⊢; omega) (by simpa using h)⟩
    | false =>
      rw [if_neg (by simp)]
      rw [List.filter_cons_of_neg (by simp [z])] at h
      exact lc_filter f g r acc (fun d' hd => hf d' (List.mem_cons_of_mem _ hd)) (by simp at hl ⊢; omega) h
theorem few {α : Type} [DecidableEq α] : ∀ (cs L : List α), cs.Nodup → (∀ c ∈ cs, c ∈ L) → cs.length ≤ L.length
  | [], L, _, _ => Nat.zero_le _
  | c :: r, L, hn, h => by
    have hc := h c (List.mem_cons_self ..)
    have hn' := List.nodup_cons.mp hn
    have ih := few r (L.erase c) hn'.2 fun x hx => (List.mem_erase_of_ne (fun e => hn'.1 (by rw [← e]; exact hx))).mpr (h x (List.mem_cons_of_mem _ hx))
    rw [List.length_erase_of_mem hc] at ih
    have := List.length_pos_of_mem hc
    simp
    omega
def yOf : D → D
  | .str s => .str (s ++ Str.ofString "y")
  | d => d
def inL (L : List (List Nat)) (d : D) : Bool := (nmD L).any fun z => eqD z d
theorem k_y : Str.ofString "y" = St [121] := by kernel_rfl
theorem y_c {c : Nat} : (⟨#[c]⟩ : Str) ++ Str.ofString "y" = St [c, 121] := by
  rw [k_y]
  exact St_app [c] [121]
theorem in_mem {L : List (List Nat)} {w : List Nat} : inL L (.str (St w)) = true → w ∈ L := by
  intro h
  obtain ⟨z, hz, e⟩ := List.any_eq_true.mp h
  obtain ⟨s, hs, rfl⟩ := List.mem_map.mp hz
  rw [e_eqS] at e
  have := St_inj.mp (of_decide_eq_true e)
  rw [← this]
  exact hs
theorem flatN (L : List (List Nat)) : (nmD L).all flatD = true := by
  simp [nmD, flatD]
def letL : List Nat := [97, 98, 99, 100, 101, 102, 103, 104, 105, 106, 107, 108, 109, 110, 111, 112, 114, 115, 116, 117, 118, 119, 120, 121, 122]
theorem letL_eq : (Str.ofString "abcdefghijklmnoprstuvwxyz").cps.toList = letL := by kernel_rfl
theorem free_y {L : List (List Nat)} (h : L.length ≤ 20) : ∃ c r, c ∈ letL ∧ ((letL.map fun c => D.str ⟨#[c]⟩).filter fun d => !inL L (yOf d)).map yOf = .str (St [c, 121]) :: r := by
  cases z : (letL.map fun c => D.str ⟨#[c]⟩).filter fun d => !inL L (yOf d) with
  | nil =>
    exfalso
    have all : ∀ w ∈ letL.map (fun c => [c, 121]), w ∈ L := by
      intro w hw
      obtain ⟨c, hc, rfl⟩ := List.mem_map.mp hw
      have := List.filter_eq_nil_iff.mp z (.str ⟨#[c]⟩) (List.mem_map.mpr ⟨c, hc, rfl⟩)
      refine in_mem ?_
      rw [← y_c]
      simpa [yOf] using this
    have := few _ _ (by decide) all
    have e : (letL.map fun c => [c, 121]).length = 25 := by decide
    omega
  | cons d r =>
    have hd : d ∈ (letL.map fun c => D.str ⟨#[c]⟩) := (List.mem_filter.mp (by rw [z]; exact List.mem_cons_self ..)).1
    obtain ⟨c, hc, rfl⟩ := List.mem_map.mp hd
    exact ⟨c, r.map yOf, hc, by rw [List.map_cons]; show D.str (_ ++ _) :: _ = _; rw [y_c]⟩
def nTail : DS := (dSeq (dIfS (dTest (dOpOwn (HD.rIn false) (dVar 6) 3)) (dAsg 6 (dOp HD.rIx (dLc (dItems (dVar 2)) (tName 8) (dTest (dOpOwn (HD.rIn true) (dOp HD.rAdd (dVar 8) (dC (.str "y"))) 3)) (dOp HD.rAdd (dVar 8) (dC (.str "y"))) [8]) (dC (.int 0)))) dNext) (dAppend 3 (dVar 6)))
theorem sp_tail {De : DEnds} {L : List (List Nat)} {w : List Nat} {x4 x5 : Option Sl} {m : Int} (hL : L.length ≤ 20) (hw : isNm w)
    (k : ∀ w', isNm w' → De.nx [some (.val .bag), some (.val (.int m)), some (.val (.str "abcdefghijklmnoprstuvwxyz")), some (.own (.lst (nmD (L ++ [w'])))), x4, x5, some (.val (.str (St w'))), none, none]) :
    nTail De [some (.val .bag), some (.val (.int m)), some (.val (.str "abcdefghijklmnoprstuvwxyz")), some (.own (.lst (nmD L))), x4, x5, some (.val (.str (St w))), none, none] := by
  have hl2 : (nmD L).length < sizeLine := Nat.lt_of_le_of_lt (by simp [nmD]; exact hL) (show 20 < sizeLine by decide)
  have e0 : ((nmD L).any fun z => eqD z (.str (St w))) = inL L (.str (St w)) := rfl
  simp only [e_seq, e_next, e_ret, e_retN, e_if, e_asg, e_own, e_drop, e_c, e_var0, e_varS, e_op, e_test, e_and, e_or, e_not, e_andV, e_orV, e_notV, e_ifE, e_chain, e_nil, e_cons, e_tup, e_lst, e_cb, e_call, e_sl, e_part, e_noPart, e_items, e_rng1, e_lc, e_yes, e_fn, e_rho1, e_rho2, e_rho3, e_rho4, e_isi, e_ints, e_CT, e_lenS, e_lenT, e_lenL, e_addI, e_addS, e_addL, e_int, e_intB, e_ixT, e_ixL, e_ixS, e_at0, e_at1, e_at2, e_slT, e_slL, e_slS, e_tail, e_eqS, e_eqI, e_depS, e_depI, e_isiS, e_isiT, e_isiTT, e_isiTS, e_lcN, e_lcC, e_name, e_repl, e_inT, e_inL, e_inS, e_inTab, e_ixTab, e_is, e_isNot, e_eqv, e_nev, e_starts, D.bl.injEq, D.int.injEq, D.str.injEq, D.tup.injEq, exists_eq_left', exists_eq_left, true_and, and_true, and_self, if_true, if_false, ite_true, ite_false, Bool.false_eq_true, Bool.not_true, Bool.not_false, eq_self, List.set_cons_zero, List.set_cons_succ, List.getElem?_cons_zero, List.getElem?_cons_succ, List.length_cons, List.length_nil, List.replicate_zero, List.map_cons, List.map_nil, List.nil_append, List.cons_append, Nat.reduceAdd, Nat.zero_add, noOwn, wipeR, List.all_cons, List.all_nil, List.any_cons, List.any_nil, Bool.and_true, Bool.or_false, Bool.false_or, Bool.and_self, Bool.xor_false, Bool.false_xor, Bool.true_xor, decide_true, Option.some.injEq, e_itT, e_itL, e_itS, e_pl1, e_pl2, e_ty1, e_ty2, e_ok1, e_ok2, e_min, e_one, e_two, e_three, e_nnT, e_nnS, e_fl1, e_fl2, e_fl3, e_starts, e_st2, t_var_pair, t_var_box, t_var_half, t_var_shut, t_var_mark, t_var_mix, t_pair_var, t_pair_box, t_pair_half, t_pair_shut, t_pair_mark, t_pair_mix, t_box_var, t_box_pair, t_box_half, t_box_shut, t_box_mark, t_box_mix, t_half_var, t_half_pair, t_half_box, t_half_shut, t_half_mark, t_half_mix, t_shut_var, t_shut_pair, t_shut_box, t_shut_half, t_shut_mark, t_shut_mix, t_mark_var, t_mark_pair, t_mark_box, t_mark_half, t_mark_shut, t_mark_mix, t_mix_var, t_mix_pair, t_mix_box, t_mix_half, t_mix_shut, t_mix_mark, e_n2, e_n3, Int.reduceNeg, Bool.or_true, i_str_S, i_str_T, i_str_L, i_str_I, i_int_S, i_int_T, i_int_L, i_int_I, i_bool_S, i_bool_T, i_bool_L, i_bool_I, i_list_S, i_list_T, i_list_L, i_list_I, i_tuple_S, i_tuple_T, i_tuple_L, i_tuple_I, i_dict_S, i_dict_T, i_dict_L, i_dict_I, e_ty_int, e_ty_bool, e_ty_list, e_ty_dict, e_isi2, e_pl3, e_pl4, e_eqB, e_depB, e_ok3, e_r2, e_r3, e_r0, e_for, e_i1, e_p2, e_n0, e_n4, e_ln0, e_ln1, Int.reduceEq, Int.reduceLT, Int.reduceLE, decide_false, Option.isSome_some, Option.isSome_none, Bool.or_self, Bool.true_or, ↓reduceIte, nTail, dOpOwn, Sl.own.injEq, Sl.val.injEq, flatN, flatD, true_or, e0]
  cases inL L (.str (St w)) with
  | false =>
    simp only [e_seq, e_next, e_ret, e_retN, e_if, e_asg, e_own, e_drop, e_c, e_var0, e_varS, e_op, e_test, e_and, e_or, e_not, e_andV, e_orV, e_notV, e_ifE, e_chain, e_nil, e_cons, e_tup, e_lst, e_cb, e_call, e_sl, e_part, e_noPart, e_items, e_rng1, e_lc, e_yes, e_fn, e_rho1, e_rho2, e_rho3, e_rho4, e_isi, e_ints, e_CT, e_lenS, e_lenT, e_lenL, e_addI, e_addS, e_addL, e_int, e_intB, e_ixT, e_ixL, e_ixS, e_at0, e_at1, e_at2, e_slT, e_slL, e_slS, e_tail, e_eqS, e_eqI, e_depS, e_depI, e_isiS, e_isiT, e_isiTT, e_isiTS, e_lcN, e_lcC, e_name, e_repl, e_inT, e_inL, e_inS, e_inTab, e_ixTab, e_is, e_isNot, e_eqv, e_nev, e_starts, D.bl.injEq, D.int.injEq, D.str.injEq, D.tup.injEq, exists_eq_left', exists_eq_left, true_and, and_true, and_self, if_true, if_false, ite_true, ite_false, Bool.false_eq_true, Bool.not_true, Bool.not_false, eq_self, List.set_cons_zero, List.set_cons_succ, List.getElem?_cons_zero, List.getElem?_cons_succ, List.length_cons, List.length_nil, List.replicate_zero, List.map_cons, List.map_nil, List.nil_append, List.cons_append, Nat.reduceAdd, Nat.zero_add, noOwn, wipeR, List.all_cons, List.all_nil, List.any_cons, List.any_nil, Bool.and_true, Bool.or_false, Bool.false_or, Bool.and_self, Bool.xor_false, Bool.false_xor, Bool.true_xor, decide_true, Option.some.injEq, e_itT, e_itL, e_itS, e_pl1, e_pl2, e_ty1, e_ty2, e_ok1, e_ok2, e_min, e_one, e_two, e_three, e_nnT, e_nnS, e_fl1, e_fl2, e_fl3, e_starts, e_st2, t_var_pair, t_var_box, t_var_half, t_var_shut, t_var_mark, t_var_mix, t_pair_var, t_pair_box, t_pair_half, t_pair_shut, t_pair_mark, t_pair_mix, t_box_var, t_box_pair, t_box_half, t_box_shut, t_box_mark, t_box_mix, t_half_var, t_half_pair, t_half_box, t_half_shut, t_half_mark, t_half_mix, t_shut_var, t_shut_pair, t_shut_box, t_shut_half, t_shut_mark, t_shut_mix, t_mark_var, t_mark_pair, t_mark_box, t_mark_half, t_mark_shut, t_mark_mix, t_mix_var, t_mix_pair, t_mix_box, t_mix_half, t_mix_shut, t_mix_mark, e_n2, e_n3, Int.reduceNeg, Bool.or_true, i_str_S, i_str_T, i_str_L, i_str_I, i_int_S, i_int_T, i_int_L, i_int_I, i_bool_S, i_bool_T, i_bool_L, i_bool_I, i_list_S, i_list_T, i_list_L, i_list_I, i_tuple_S, i_tuple_T, i_tuple_L, i_tuple_I, i_dict_S, i_dict_T, i_dict_L, i_dict_I, e_ty_int, e_ty_bool, e_ty_list, e_ty_dict, e_isi2, e_pl3, e_pl4, e_eqB, e_depB, e_ok3, e_r2, e_r3, e_r0, e_for, e_i1, e_p2, e_n0, e_n4, e_ln0, e_ln1, Int.reduceEq, Int.reduceLT, Int.reduceLE, decide_false, Option.isSome_some, Option.isSome_none, Bool.or_self, Bool.true_or, ↓reduceIte, dAppend, Sl.own.injEq, hl2]
    have := k w hw
    simp only [nmD, List.map_append, List.map_cons, List.map_nil] at this
    exact ⟨_, rfl, hl2, this⟩
  | true =>
    simp only [e_seq, e_next, e_ret, e_retN, e_if, e_asg, e_own, e_drop, e_c, e_var0, e_varS, e_op, e_test, e_and, e_or, e_not, e_andV, e_orV, e_notV, e_ifE, e_chain, e_nil, e_cons, e_tup, e_lst, e_cb, e_call, e_sl, e_part, e_noPart, e_items, e_rng1, e_lc, e_yes, e_fn, e_rho1, e_rho2, e_rho3, e_rho4, e_isi, e_ints, e_CT, e_lenS, e_lenT, e_lenL, e_addI, e_addS, e_addL, e_int, e_intB, e_ixT, e_ixL, e_ixS, e_at0, e_at1, e_at2, e_slT, e_slL, e_slS, e_tail, e_eqS, e_eqI, e_depS, e_depI, e_isiS, e_isiT, e_isiTT, e_isiTS, e_lcN, e_lcC, e_name, e_repl, e_inT, e_inL, e_inS, e_inTab, e_ixTab, e_is, e_isNot, e_eqv, e_nev, e_starts, D.bl.injEq, D.int.injEq, D.str.injEq, D.tup.injEq, exists_eq_left', exists_eq_left, true_and, and_true, and_self, if_true, if_false, ite_true, ite_false, Bool.false_eq_true, Bool.not_true, Bool.not_false, eq_self, List.set_cons_zero, List.set_cons_succ, List.getElem?_cons_zero, List.getElem?_cons_succ, List.length_cons, List.length_nil, List.replicate_zero, List.map_cons, List.map_nil, List.nil_append, List.cons_append, Nat.reduceAdd, Nat.zero_add, noOwn, wipeR, List.all_cons, List.all_nil, List.any_cons, List.any_nil, Bool.and_true, Bool.or_false, Bool.false_or, Bool.and_self, Bool.xor_false, Bool.false_xor, Bool.true_xor, decide_true, Option.some.injEq, e_itT, e_itL, e_itS, e_pl1, e_pl2, e_ty1, e_ty2, e_ok1, e_ok2, e_min, e_one, e_two, e_three, e_nnT, e_nnS, e_fl1, e_fl2, e_fl3, e_starts, e_st2, t_var_pair, t_var_box, t_var_half, t_var_shut, t_var_mark, t_var_mix, t_pair_var, t_pair_box, t_pair_half, t_pair_shut, t_pair_mark, t_pair_mix, t_box_var, t_box_pair, t_box_half, t_box_shut, t_box_mark, t_box_mix, t_half_var, t_half_pair, t_half_box, t_half_shut, t_half_mark, t_half_mix, t_shut_var, t_shut_pair, t_shut_box, t_shut_half, t_shut_mark, t_shut_mix, t_mark_var, t_mark_pair, t_mark_box, t_mark_half, t_mark_shut, t_mark_mix, t_mix_var, t_mix_pair, t_mix_box, t_mix_half, t_mix_shut, t_mix_mark, e_n2, e_n3, Int.reduceNeg, Bool.or_true, i_str_S, i_str_T, i_str_L, i_str_I, i_int_S, i_int_T, i_int_L, i_int_I, i_bool_S, i_bool_T, i_bool_L, i_bool_I, i_list_S, i_list_T, i_list_L, i_list_I, i_tuple_S, i_tuple_T, i_tuple_L, i_tuple_I, i_dict_S, i_dict_T, i_dict_L, i_dict_I, e_ty_int, e_ty_bool, e_ty_list, e_ty_dict, e_isi2, e_pl3, e_pl4, e_eqB, e_depB, e_ok3, e_r2, e_r3, e_r0, e_for, e_i1, e_p2, e_n0, e_n4, e_ln0, e_ln1, Int.reduceEq, Int.reduceLT, Int.reduceLE, decide_false, Option.isSome_some, Option.isSome_none, Bool.or_self, Bool.true_or, ↓reduceIte]
    rw [letL_eq]
    refine lc_filter yOf (fun d => !inL L (yOf d)) _ _ (fun d hd S N hS => ?_) (by simp; decide) ?_
    · obtain ⟨c, hc, rfl⟩ := List.mem_map.mp hd
      have ok : okS (St [c, 121]) := Tm.okS_St (by simp) (by
        intro x hx
        have hc2 : c ≤ 122 := by
          have : c ∈ (Str.ofString "abcdefghijklmnoprstuvwxyz").cps.toList := by rw [letL_eq]; exact hc
          exact (letters this).2
        simp at hx
        omega)
      have e1 : ((nmD L).any fun z => eqD z (.str (St [c, 121]))) = inL L (.str (St [c, 121])) := rfl
      simp only [yOf, y_c] at hS
      simp only [e_seq, e_next, e_ret, e_retN, e_if, e_asg, e_own, e_drop, e_c, e_var0, e_varS, e_op, e_test, e_and, e_or, e_not, e_andV, e_orV, e_notV, e_ifE, e_chain, e_nil, e_cons, e_tup, e_lst, e_cb, e_call, e_sl, e_part, e_noPart, e_items, e_rng1, e_lc, e_yes, e_fn, e_rho1, e_rho2, e_rho3, e_rho4, e_isi, e_ints, e_CT, e_lenS, e_lenT, e_lenL, e_addI, e_addS, e_addL, e_int, e_intB, e_ixT, e_ixL, e_ixS, e_at0, e_at1, e_at2, e_slT, e_slL, e_slS, e_tail, e_eqS, e_eqI, e_depS, e_depI, e_isiS, e_isiT, e_isiTT, e_isiTS, e_lcN, e_lcC, e_name, e_repl, e_inT, e_inL, e_inS, e_inTab, e_ixTab, e_is, e_isNot, e_eqv, e_nev, e_starts, D.bl.injEq, D.int.injEq, D.str.injEq, D.tup.injEq, exists_eq_left', exists_eq_left, true_and, and_true, and_self, if_true, if_false, ite_true, ite_false, Bool.false_eq_true, Bool.not_true, Bool.not_false, eq_self, List.set_cons_zero, List.set_cons_succ, List.getElem?_cons_zero, List.getElem?_cons_succ, List.length_cons, List.length_nil, List.replicate_zero, List.map_cons, List.map_nil, List.nil_append, List.cons_append, Nat.reduceAdd, Nat.zero_add, noOwn, wipeR, List.all_cons, List.all_nil, List.any_cons, List.any_nil, Bool.and_true, Bool.or_false, Bool.false_or, Bool.and_self, Bool.xor_false, Bool.false_xor, Bool.true_xor, decide_true, Option.some.injEq, e_itT, e_itL, e_itS, e_pl1, e_pl2, e_ty1, e_ty2, e_ok1, e_ok2, e_min, e_one, e_two, e_three, e_nnT, e_nnS, e_fl1, e_fl2, e_fl3, e_starts, e_st2, t_var_pair, t_var_box, t_var_half, t_var_shut, t_var_mark, t_var_mix, t_pair_var, t_pair_box, t_pair_half, t_pair_shut, t_pair_mark, t_pair_mix, t_box_var, t_box_pair, t_box_half, t_box_shut, t_box_mark, t_box_mix, t_half_var, t_half_pair, t_half_box, t_half_shut, t_half_mark, t_half_mix, t_shut_var, t_shut_pair, t_shut_box, t_shut_half, t_shut_mark, t_shut_mix, t_mark_var, t_mark_pair, t_mark_box, t_mark_half, t_mark_shut, t_mark_mix, t_mix_var, t_mix_pair, t_mix_box, t_mix_half, t_mix_shut, t_mix_mark, e_n2, e_n3, Int.reduceNeg, Bool.or_true, i_str_S, i_str_T, i_str_L, i_str_I, i_int_S, i_int_T, i_int_L, i_int_I, i_bool_S, i_bool_T, i_bool_L, i_bool_I, i_list_S, i_list_T, i_list_L, i_list_I, i_tuple_S, i_tuple_T, i_tuple_L, i_tuple_I, i_dict_S, i_dict_T, i_dict_L, i_dict_I, e_ty_int, e_ty_bool, e_ty_list, e_ty_dict, e_isi2, e_pl3, e_pl4, e_eqB, e_depB, e_ok3, e_r2, e_r3, e_r0, e_for, e_i1, e_p2, e_n0, e_n4, e_ln0, e_ln1, Int.reduceEq, Int.reduceLT, Int.reduceLE, decide_false, Option.isSome_some, Option.isSome_none, Bool.or_self, Bool.true_or, ↓reduceIte, dOpOwn, Sl.own.injEq, Sl.val.injEq, flatN, flatD, true_or, y_c, ok, e1]
      cases hh : inL L (.str (St [c, 121])) with
      | true =>
        rw [hh] at hS
        exact hS
      | false =>
        rw [hh] at hS
        exact hS
    · obtain ⟨c, r, hc, e⟩ := free_y hL
      rw [List.nil_append, e]
      simp only [e_seq, e_next, e_ret, e_retN, e_if, e_asg, e_own, e_drop, e_c, e_var0, e_varS, e_op, e_test, e_and, e_or, e_not, e_andV, e_orV, e_notV, e_ifE, e_chain, e_nil, e_cons, e_tup, e_lst, e_cb, e_call, e_sl, e_part, e_noPart, e_items, e_rng1, e_lc, e_yes, e_fn, e_rho1, e_rho2, e_rho3, e_rho4, e_isi, e_ints, e_CT, e_lenS, e_lenT, e_lenL, e_addI, e_addS, e_addL, e_int, e_intB, e_ixT, e_ixL, e_ixS, e_at0, e_at1, e_at2, e_slT, e_slL, e_slS, e_tail, e_eqS, e_eqI, e_depS, e_depI, e_isiS, e_isiT, e_isiTT, e_isiTS, e_lcN, e_lcC, e_name, e_repl, e_inT, e_inL, e_inS, e_inTab, e_ixTab, e_is, e_isNot, e_eqv, e_nev, e_starts, D.bl.injEq, D.int.injEq, D.str.injEq, D.tup.injEq, exists_eq_left', exists_eq_left, true_and, and_true, and_self, if_true, if_false, ite_true, ite_false, Bool.false_eq_true, Bool.not_true, Bool.not_false, eq_self, List.set_cons_zero, List.set_cons_succ, List.getElem?_cons_zero, List.getElem?_cons_succ, List.length_cons, List.length_nil, List.replicate_zero, List.map_cons, List.map_nil, List.nil_append, List.cons_append, Nat.reduceAdd, Nat.zero_add, noOwn, wipeR, List.all_cons, List.all_nil, List.any_cons, List.any_nil, Bool.and_true, Bool.or_false, Bool.false_or, Bool.and_self, Bool.xor_false, Bool.false_xor, Bool.true_xor, decide_true, Option.some.injEq, e_itT, e_itL, e_itS, e_pl1, e_pl2, e_ty1, e_ty2, e_ok1, e_ok2, e_min, e_one, e_two, e_three, e_nnT, e_nnS, e_fl1, e_fl2, e_fl3, e_starts, e_st2, t_var_pair, t_var_box, t_var_half, t_var_shut, t_var_mark, t_var_mix, t_pair_var, t_pair_box, t_pair_half, t_pair_shut, t_pair_mark, t_pair_mix, t_box_var, t_box_pair, t_box_half, t_box_shut, t_box_mark, t_box_mix, t_half_var, t_half_pair, t_half_box, t_half_shut, t_half_mark, t_half_mix, t_shut_var, t_shut_pair, t_shut_box, t_shut_half, t_shut_mark, t_shut_mix, t_mark_var, t_mark_pair, t_mark_box, t_mark_half, t_mark_shut, t_mark_mix, t_mix_var, t_mix_pair, t_mix_box, t_mix_half, t_mix_shut, t_mix_mark, e_n2, e_n3, Int.reduceNeg, Bool.or_true, i_str_S, i_str_T, i_str_L, i_str_I, i_int_S, i_int_T, i_int_L, i_int_I, i_bool_S, i_bool_T, i_bool_L, i_bool_I, i_list_S, i_list_T, i_list_L, i_list_I, i_tuple_S, i_tuple_T, i_tuple_L, i_tuple_I, i_dict_S, i_dict_T, i_dict_L, i_dict_I, e_ty_int, e_ty_bool, e_ty_list, e_ty_dict, e_isi2, e_pl3, e_pl4, e_eqB, e_depB, e_ok3, e_r2, e_r3, e_r0, e_for, e_i1, e_p2, e_n0, e_n4, e_ln0, e_ln1, Int.reduceEq, Int.reduceLT, Int.reduceLE, decide_false, Option.isSome_some, Option.isSome_none, Bool.or_self, Bool.true_or, ↓reduceIte, dAppend, Sl.own.injEq, hl2]
      have hc2 : c ∈ (Str.ofString "abcdefghijklmnoprstuvwxyz").cps.toList := by rw [letL_eq]; exact hc
      have := k [c, 121] ⟨by simp, by simp, by
        have := letters hc2
        intro x hx
        simp at hx
        omega⟩
      simp only [nmD, List.map_append, List.map_cons, List.map_nil] at this
      exact ⟨_, rfl, hl2, this⟩
theorem wd_half : ∃ w, D.str (Str.ofString "half") = .str (HD.St w) ∧ isNm w := ⟨[104, 97, 108, 102], congrArg D.str (by kernel_rfl), by decide, by decide, by decide⟩
theorem wd_mix : ∃ w, D.str (Str.ofString "mix") = .str (HD.St w) ∧ isNm w := ⟨[109, 105, 120], congrArg D.str (by kernel_rfl), by decide, by decide, by decide⟩
theorem wd_pair : ∃ w, D.str (Str.ofString "pair") = .str (HD.St w) ∧ isNm w := ⟨[112, 97, 105, 114], congrArg D.str (by kernel_rfl), by decide, by decide, by decide⟩
theorem wd_box : ∃ w, D.str (Str.ofString "box") = .str (HD.St w) ∧ isNm w := ⟨[98, 111, 120], congrArg D.str (by kernel_rfl), by decide, by decide, by decide⟩
theorem wd_var : ∃ w, D.str (Str.ofString "var") = .str (HD.St w) ∧ isNm w := ⟨[118, 97, 114], congrArg D.str (by kernel_rfl), by decide, by decide, by decide⟩
theorem wd_heard : ∃ w, D.str (Str.ofString "heard") = .str (HD.St w) ∧ isNm w := ⟨[104, 101, 97, 114, 100], congrArg D.str (by kernel_rfl), by decide, by decide, by decide⟩
theorem wd_a : ∃ w, D.str (Str.ofString "a") = .str (HD.St w) ∧ isNm w := ⟨[97], congrArg D.str (by kernel_rfl), by decide, by decide, by decide⟩
theorem ones_sum : ∀ l : List Nat, ((l.map fun c => HD.St [c]).map (·.length)).sum = l.length
  | [] => rfl
  | c :: r => by
    simp only [List.map_cons, List.sum_cons, ones_sum r, St_len, List.length_cons, List.length_nil]
    omega
theorem at_mem {xs : List D} {r : Int} (h1 : 0 ≤ r) (h2 : r < xs.length) : ∃ x, L2.atI xs r = some x ∧ x ∈ xs := by
  have hr : r.toNat < xs.length := by omega
  refine ⟨xs[r.toNat], ?_, List.getElem_mem _⟩
  have := at_nat (l := xs) (i := r.toNat) (x := xs[r.toNat]) (by simp)
  rwa [Int.toNat_of_nonneg h1] at this
theorem names_loop {De : DEnds} {m : Int} : ∀ (ds : List D) (L : List (List Nat)) (x4 x5 x6 : Option Sl), (∀ s ∈ L, isNm s) → L.length + ds.length ≤ 20 → noOwn [x4, x5, x6] [0, 1, 2] = true →
    (∀ (L' : List (List Nat)) (x4 x5 x6 : Option Sl), (∀ s ∈ L', isNm s) → L'.length = L.length + ds.length → De.nx [some (.val .bag), some (.val (.int m)), some (.val (.str "abcdefghijklmnoprstuvwxyz")), some (.own (.lst (nmD L'))), x4, x5, x6, none, none]) →
    forD (tName 4) (dSeq (dAsg 5 (dOp rIx (dLst (dCons (dC (.int 1)) (dCons (dC (.int 1)) (dCons (dC (.int 2)) (dCons (dC (.int 3)) (dCons (dC (.int 8)) dNil)))))) (dCall m_draw (dCons (dVar 0) (dCons (dC (.int 5)) dNil))))) (dSeq (dAsg 6 (dJoin (dC (.str "")) (dLc (dRng1 (dCons (dVar 5) dNil)) (tName 7) dYes (dOp rIx (dVar 2) (dCall m_draw (dCons (dVar 0) (dCons (dC (.int 25)) dNil)))) [7]))) (dSeq (dIfS (dTest (dOp rEq (dCall m_draw (dCons (dVar 0) (dCons (dC (.int 12)) dNil))) (dC (.int 0)))) (dAsg 6 (dOp rIx (dLst (dCons (dC (.str "half")) (dCons (dC (.str "mix")) (dCons (dC (.str "pair")) (dCons (dC (.str "box")) (dCons (dC (.str "var")) (dCons (dC (.str "heard")) dNil))))))) (dCall m_draw (dCons (dVar 0) (dCons (dC (.int 6)) dNil))))) dNext) nTail))) ds De [some (.val .bag), some (.val (.int m)), some (.val (.str "abcdefghijklmnoprstuvwxyz")), some (.own (.lst (nmD L))), x4, x5, x6, none, none]
  | [], L, x4, x5, x6, hL, hl, hx, k => by
    simp only [e_seq, e_next, e_ret, e_retN, e_if, e_asg, e_own, e_drop, e_c, e_var0, e_varS, e_op, e_test, e_and, e_or, e_not, e_andV, e_orV, e_notV, e_ifE, e_chain, e_nil, e_cons, e_tup, e_lst, e_cb, e_call, e_sl, e_part, e_noPart, e_items, e_rng1, e_lc, e_yes, e_fn, e_rho1, e_rho2, e_rho3, e_rho4, e_isi, e_ints, e_CT, e_lenS, e_lenT, e_lenL, e_addI, e_addS, e_addL, e_int, e_intB, e_ixT, e_ixL, e_ixS, e_at0, e_at1, e_at2, e_slT, e_slL, e_slS, e_tail, e_eqS, e_eqI, e_depS, e_depI, e_isiS, e_isiT, e_isiTT, e_isiTS, e_lcN, e_lcC, e_name, e_repl, e_inT, e_inL, e_inS, e_inTab, e_ixTab, e_is, e_isNot, e_eqv, e_nev, e_starts, D.bl.injEq, D.int.injEq, D.str.injEq, D.tup.injEq, exists_eq_left', exists_eq_left, true_and, and_true, and_self, if_true, if_false, ite_true, ite_false, Bool.false_eq_true, Bool.not_true, Bool.not_false, eq_self, List.set_cons_zero, List.set_cons_succ, List.getElem?_cons_zero, List.getElem?_cons_succ, List.length_cons, List.length_nil, List.replicate_zero, List.map_cons, List.map_nil, List.nil_append, List.cons_append, Nat.reduceAdd, Nat.zero_add, noOwn, wipeR, List.all_cons, List.all_nil, List.any_cons, List.any_nil, Bool.and_true, Bool.or_false, Bool.false_or, Bool.and_self, Bool.xor_false, Bool.false_xor, Bool.true_xor, decide_true, Option.some.injEq, e_itT, e_itL, e_itS, e_pl1, e_pl2, e_ty1, e_ty2, e_ok1, e_ok2, e_min, e_one, e_two, e_three, e_nnT, e_nnS, e_fl1, e_fl2, e_fl3, e_starts, e_st2, t_var_pair, t_var_box, t_var_half, t_var_shut, t_var_mark, t_var_mix, t_pair_var, t_pair_box, t_pair_half, t_pair_shut, t_pair_mark, t_pair_mix, t_box_var, t_box_pair, t_box_half, t_box_shut, t_box_mark, t_box_mix, t_half_var, t_half_pair, t_half_box, t_half_shut, t_half_mark, t_half_mix, t_shut_var, t_shut_pair, t_shut_box, t_shut_half, t_shut_mark, t_shut_mix, t_mark_var, t_mark_pair, t_mark_box, t_mark_half, t_mark_shut, t_mark_mix, t_mix_var, t_mix_pair, t_mix_box, t_mix_half, t_mix_shut, t_mix_mark, e_n2, e_n3, Int.reduceNeg, Bool.or_true, i_str_S, i_str_T, i_str_L, i_str_I, i_int_S, i_int_T, i_int_L, i_int_I, i_bool_S, i_bool_T, i_bool_L, i_bool_I, i_list_S, i_list_T, i_list_L, i_list_I, i_tuple_S, i_tuple_T, i_tuple_L, i_tuple_I, i_dict_S, i_dict_T, i_dict_L, i_dict_I, e_ty_int, e_ty_bool, e_ty_list, e_ty_dict, e_isi2, e_pl3, e_pl4, e_eqB, e_depB, e_ok3, e_r2, e_r3, e_r0, e_for, e_i1, e_p2, e_n0, e_n4, e_ln0, e_ln1, Int.reduceEq, Int.reduceLT, Int.reduceLE, decide_false, Option.isSome_some, Option.isSome_none, Bool.or_self, Bool.true_or, ↓reduceIte, e_forN]
    exact k L x4 x5 x6 hL (by simp)
  | d :: r, L, x4, x5, x6, hL, hl, hx, k => by
    simp only [e_seq, e_next, e_ret, e_retN, e_if, e_asg, e_own, e_drop, e_c, e_var0, e_varS, e_op, e_test, e_and, e_or, e_not, e_andV, e_orV, e_notV, e_ifE, e_chain, e_nil, e_cons, e_tup, e_lst, e_cb, e_call, e_sl, e_part, e_noPart, e_items, e_rng1, e_lc, e_yes, e_fn, e_rho1, e_rho2, e_rho3, e_rho4, e_isi, e_ints, e_CT, e_lenS, e_lenT, e_lenL, e_addI, e_addS, e_addL, e_int, e_intB, e_ixT, e_ixL, e_ixS, e_at0, e_at1, e_at2, e_slT, e_slL, e_slS, e_tail, e_eqS, e_eqI, e_depS, e_depI, e_isiS, e_isiT, e_isiTT, e_isiTS, e_lcN, e_lcC, e_name, e_repl, e_inT, e_inL, e_inS, e_inTab, e_ixTab, e_is, e_isNot, e_eqv, e_nev, e_starts, D.bl.injEq, D.int.injEq, D.str.injEq, D.tup.injEq, exists_eq_left', exists_eq_left, true_and, and_true, and_self, if_true, if_false, ite_true, ite_false, Bool.false_eq_true, Bool.not_true, Bool.not_false, eq_self, List.set_cons_zero, List.set_cons_succ, List.getElem?_cons_zero, List.getElem?_cons_succ, List.length_cons, List.length_nil, List.replicate_zero, List.map_cons, List.map_nil, List.nil_append, List.cons_append, Nat.reduceAdd, Nat.zero_add, noOwn, wipeR, List.all_cons, List.all_nil, List.any_cons, List.any_nil, Bool.and_true, Bool.or_false, Bool.false_or, Bool.and_self, Bool.xor_false, Bool.false_xor, Bool.true_xor, decide_true, Option.some.injEq, e_itT, e_itL, e_itS, e_pl1, e_pl2, e_ty1, e_ty2, e_ok1, e_ok2, e_min, e_one, e_two, e_three, e_nnT, e_nnS, e_fl1, e_fl2, e_fl3, e_starts, e_st2, t_var_pair, t_var_box, t_var_half, t_var_shut, t_var_mark, t_var_mix, t_pair_var, t_pair_box, t_pair_half, t_pair_shut, t_pair_mark, t_pair_mix, t_box_var, t_box_pair, t_box_half, t_box_shut, t_box_mark, t_box_mix, t_half_var, t_half_pair, t_half_box, t_half_shut, t_half_mark, t_half_mix, t_shut_var, t_shut_pair, t_shut_box, t_shut_half, t_shut_mark, t_shut_mix, t_mark_var, t_mark_pair, t_mark_box, t_mark_half, t_mark_shut, t_mark_mix, t_mix_var, t_mix_pair, t_mix_box, t_mix_half, t_mix_shut, t_mix_mark, e_n2, e_n3, Int.reduceNeg, Bool.or_true, i_str_S, i_str_T, i_str_L, i_str_I, i_int_S, i_int_T, i_int_L, i_int_I, i_bool_S, i_bool_T, i_bool_L, i_bool_I, i_list_S, i_list_T, i_list_L, i_list_I, i_tuple_S, i_tuple_T, i_tuple_L, i_tuple_I, i_dict_S, i_dict_T, i_dict_L, i_dict_I, e_ty_int, e_ty_bool, e_ty_list, e_ty_dict, e_isi2, e_pl3, e_pl4, e_eqB, e_depB, e_ok3, e_r2, e_r3, e_r0, e_for, e_i1, e_p2, e_n0, e_n4, e_ln0, e_ln1, Int.reduceEq, Int.reduceLT, Int.reduceLE, decide_false, Option.isSome_some, Option.isSome_none, Bool.or_self, Bool.true_or, ↓reduceIte, e_forC, e_draw]
    refine ⟨by decide, fun r1 h1 h2 => ?_⟩
    obtain ⟨x, e1, hx1⟩ := at_mem (xs := [D.int 1, D.int 1, D.int 2, D.int 3, D.int 8]) h1 (by simpa using h2)
    have hz : ∃ z : Nat, x = .int z ∧ 1 ≤ z ∧ z ≤ 8 := by
      simp only [List.mem_cons, List.not_mem_nil, or_false] at hx1
      rcases hx1 with rfl | rfl | rfl | rfl | rfl
      · exact ⟨1, rfl, by omega, by omega⟩
      · exact ⟨1, rfl, by omega, by omega⟩
      · exact ⟨2, rfl, by omega, by omega⟩
      · exact ⟨3, rfl, by omega, by omega⟩
      · exact ⟨8, rfl, by omega, by omega⟩
    obtain ⟨z, rfl, z1, z2⟩ := hz
    refine ⟨_, e1, ?_⟩
    simp only [e_seq, e_next, e_ret, e_retN, e_if, e_asg, e_own, e_drop, e_c, e_var0, e_varS, e_op, e_test, e_and, e_or, e_not, e_andV, e_orV, e_notV, e_ifE, e_chain, e_nil, e_cons, e_tup, e_lst, e_cb, e_call, e_sl, e_part, e_noPart, e_items, e_rng1, e_lc, e_yes, e_fn, e_rho1, e_rho2, e_rho3, e_rho4, e_isi, e_ints, e_CT, e_lenS, e_lenT, e_lenL, e_addI, e_addS, e_addL, e_int, e_intB, e_ixT, e_ixL, e_ixS, e_at0, e_at1, e_at2, e_slT, e_slL, e_slS, e_tail, e_eqS, e_eqI, e_depS, e_depI, e_isiS, e_isiT, e_isiTT, e_isiTS, e_lcN, e_lcC, e_name, e_repl, e_inT, e_inL, e_inS, e_inTab, e_ixTab, e_is, e_isNot, e_eqv, e_nev, e_starts, D.bl.injEq, D.int.injEq, D.str.injEq, D.tup.injEq, exists_eq_left', exists_eq_left, true_and, and_true, and_self, if_true, if_false, ite_true, ite_false, Bool.false_eq_true, Bool.not_true, Bool.not_false, eq_self, List.set_cons_zero, List.set_cons_succ, List.getElem?_cons_zero, List.getElem?_cons_succ, List.length_cons, List.length_nil, List.replicate_zero, List.map_cons, List.map_nil, List.nil_append, List.cons_append, Nat.reduceAdd, Nat.zero_add, noOwn, wipeR, List.all_cons, List.all_nil, List.any_cons, List.any_nil, Bool.and_true, Bool.or_false, Bool.false_or, Bool.and_self, Bool.xor_false, Bool.false_xor, Bool.true_xor, decide_true, Option.some.injEq, e_itT, e_itL, e_itS, e_pl1, e_pl2, e_ty1, e_ty2, e_ok1, e_ok2, e_min, e_one, e_two, e_three, e_nnT, e_nnS, e_fl1, e_fl2, e_fl3, e_starts, e_st2, t_var_pair, t_var_box, t_var_half, t_var_shut, t_var_mark, t_var_mix, t_pair_var, t_pair_box, t_pair_half, t_pair_shut, t_pair_mark, t_pair_mix, t_box_var, t_box_pair, t_box_half, t_box_shut, t_box_mark, t_box_mix, t_half_var, t_half_pair, t_half_box, t_half_shut, t_half_mark, t_half_mix, t_shut_var, t_shut_pair, t_shut_box, t_shut_half, t_shut_mark, t_shut_mix, t_mark_var, t_mark_pair, t_mark_box, t_mark_half, t_mark_shut, t_mark_mix, t_mix_var, t_mix_pair, t_mix_box, t_mix_half, t_mix_shut, t_mix_mark, e_n2, e_n3, Int.reduceNeg, Bool.or_true, i_str_S, i_str_T, i_str_L, i_str_I, i_int_S, i_int_T, i_int_L, i_int_I, i_bool_S, i_bool_T, i_bool_L, i_bool_I, i_list_S, i_list_T, i_list_L, i_list_I, i_tuple_S, i_tuple_T, i_tuple_L, i_tuple_I, i_dict_S, i_dict_T, i_dict_L, i_dict_I, e_ty_int, e_ty_bool, e_ty_list, e_ty_dict, e_isi2, e_pl3, e_pl4, e_eqB, e_depB, e_ok3, e_r2, e_r3, e_r0, e_for, e_i1, e_p2, e_n0, e_n4, e_ln0, e_ln1, Int.reduceEq, Int.reduceLT, Int.reduceLE, decide_false, Option.isSome_some, Option.isSome_none, Bool.or_self, Bool.true_or, ↓reduceIte, dJoin]
    refine ⟨by omega, by omega, ?_⟩
    have il : (intsD 0 (z : Int).toNat).length = z := by simp [intsD]
    have next : ∀ w : List Nat, isNm w → ∀ x5 : Option Sl, nTail { De with nx := forD (tName 4) (dSeq (dAsg 5 (dOp rIx (dLst (dCons (dC (.int 1)) (dCons (dC (.int 1)) (dCons (dC (.int 2)) (dCons (dC (.int 3)) (dCons (dC (.int 8)) dNil)))))) (dCall m_draw (dCons (dVar 0) (dCons (dC (.int 5)) dNil))))) (dSeq (dAsg 6 (dJoin (dC (.str "")) (dLc (dRng1 (dCons (dVar 5) dNil)) (tName 7) dYes (dOp rIx (dVar 2) (dCall m_draw (dCons (dVar 0) (dCons (dC (.int 25)) dNil)))) [7]))) (dSeq (dIfS (dTest (dOp rEq (dCall m_draw (dCons (dVar 0) (dCons (dC (.int 12)) dNil))) (dC (.int 0)))) (dAsg 6 (dOp rIx (dLst (dCons (dC (.str "half")) (dCons (dC (.str "mix")) (dCons (dC (.str "pair")) (dCons (dC (.str "box")) (dCons (dC (.str "var")) (dCons (dC (.str "heard")) dNil))))))) (dCall m_draw (dCons (dVar 0) (dCons (dC (.int 6)) dNil))))) dNext) nTail))) r De, ct := forD (tName 4) (dSeq (dAsg 5 (dOp rIx (dLst (dCons (dC (.int 1)) (dCons (dC (.int 1)) (dCons (dC (.int 2)) (dCons (dC (.int 3)) (dCons (dC (.int 8)) dNil)))))) (dCall m_draw (dCons (dVar 0) (dCons (dC (.int 5)) dNil))))) (dSeq (dAsg 6 (dJoin (dC (.str "")) (dLc (dRng1 (dCons (dVar 5) dNil)) (tName 7) dYes (dOp rIx (dVar 2) (dCall m_draw (dCons (dVar 0) (dCons (dC (.int 25)) dNil)))) [7]))) (dSeq (dIfS (dTest (dOp rEq (dCall m_draw (dCons (dVar 0) (dCons (dC (.int 12)) dNil))) (dC (.int 0)))) (dAsg 6 (dOp rIx (dLst (dCons (dC (.str "half")) (dCons (dC (.str "mix")) (dCons (dC (.str "pair")) (dCons (dC (.str "box")) (dCons (dC (.str "var")) (dCons (dC (.str "heard")) dNil))))))) (dCall m_draw (dCons (dVar 0) (dCons (dC (.int 6)) dNil))))) dNext) nTail))) r De, bk := De.nx } [some (.val .bag), some (.val (.int m)), some (.val (.str "abcdefghijklmnoprstuvwxyz")), some (.own (.lst (nmD L))), some (.val d), some (.val (.int z)), some (.val (.str (HD.St w))), none, none] := by
      intro w hw x5
      refine sp_tail (by simp at hl; omega) hw fun w' hw' => ?_
      refine names_loop r (L ++ [w']) _ _ _ (fun s hs => ?_) (by simp at hl ⊢; omega) rfl fun L' x4 x5 x6 h1 h2 => k L' x4 x5 x6 h1 (by simp at h2 ⊢; omega)
      rcases List.mem_append.mp hs with q | q
      · exact hL s q
      · have : s = w' := by simpa using q
        rw [this]
        exact hw'
    refine lc_draw (fun d' S hS => ?_) _ [] (by simp) (by rw [il]; simp; omega) ?_
    · simp only [e_seq, e_next, e_ret, e_retN, e_if, e_asg, e_own, e_drop, e_c, e_var0, e_varS, e_op, e_test, e_and, e_or, e_not, e_andV, e_orV, e_notV, e_ifE, e_chain, e_nil, e_cons, e_tup, e_lst, e_cb, e_call, e_sl, e_part, e_noPart, e_items, e_rng1, e_lc, e_yes, e_fn, e_rho1, e_rho2, e_rho3, e_rho4, e_isi, e_ints, e_CT, e_lenS, e_lenT, e_lenL, e_addI, e_addS, e_addL, e_int, e_intB, e_ixT, e_ixL, e_ixS, e_at0, e_at1, e_at2, e_slT, e_slL, e_slS, e_tail, e_eqS, e_eqI, e_depS, e_depI, e_isiS, e_isiT, e_isiTT, e_isiTS, e_lcN, e_lcC, e_name, e_repl, e_inT, e_inL, e_inS, e_inTab, e_ixTab, e_is, e_isNot, e_eqv, e_nev, e_starts, D.bl.injEq, D.int.injEq, D.str.injEq, D.tup.injEq, exists_eq_left', exists_eq_left, true_and, and_true, and_self, if_true, if_false, ite_true, ite_false, Bool.false_eq_true, Bool.not_true, Bool.not_false, eq_self, List.set_cons_zero, List.set_cons_succ, List.getElem?_cons_zero, List.getElem?_cons_succ, List.length_cons, List.length_nil, List.replicate_zero, List.map_cons, List.map_nil, List.nil_append, List.cons_append, Nat.reduceAdd, Nat.zero_add, noOwn, wipeR, List.all_cons, List.all_nil, List.any_cons, List.any_nil, Bool.and_true, Bool.or_false, Bool.false_or, Bool.and_self, Bool.xor_false, Bool.false_xor, Bool.true_xor, decide_true, Option.some.injEq, e_itT, e_itL, e_itS, e_pl1, e_pl2, e_ty1, e_ty2, e_ok1, e_ok2, e_min, e_one, e_two, e_three, e_nnT, e_nnS, e_fl1, e_fl2, e_fl3, e_starts, e_st2, t_var_pair, t_var_box, t_var_half, t_var_shut, t_var_mark, t_var_mix, t_pair_var, t_pair_box, t_pair_half, t_pair_shut, t_pair_mark, t_pair_mix, t_box_var, t_box_pair, t_box_half, t_box_shut, t_box_mark, t_box_mix, t_half_var, t_half_pair, t_half_box, t_half_shut, t_half_mark, t_half_mix, t_shut_var, t_shut_pair, t_shut_box, t_shut_half, t_shut_mark, t_shut_mix, t_mark_var, t_mark_pair, t_mark_box, t_mark_half, t_mark_shut, t_mark_mix, t_mix_var, t_mix_pair, t_mix_box, t_mix_half, t_mix_shut, t_mix_mark, e_n2, e_n3, Int.reduceNeg, Bool.or_true, i_str_S, i_str_T, i_str_L, i_str_I, i_int_S, i_int_T, i_int_L, i_int_I, i_bool_S, i_bool_T, i_bool_L, i_bool_I, i_list_S, i_list_T, i_list_L, i_list_I, i_tuple_S, i_tuple_T, i_tuple_L, i_tuple_I, i_dict_S, i_dict_T, i_dict_L, i_dict_I, e_ty_int, e_ty_bool, e_ty_list, e_ty_dict, e_isi2, e_pl3, e_pl4, e_eqB, e_depB, e_ok3, e_r2, e_r3, e_r0, e_for, e_i1, e_p2, e_n0, e_n4, e_ln0, e_ln1, Int.reduceEq, Int.reduceLT, Int.reduceLE, decide_false, Option.isSome_some, Option.isSome_none, Bool.or_self, Bool.true_or, ↓reduceIte, e_draw]
      intro r2 g1 g2
      have hr : r2.toNat < letL.length := by
        have : letL.length = 25 := by decide
        omega
      have e2 : L2.atI (Str.ofString "abcdefghijklmnoprstuvwxyz").cps.toList r2 = some letL[r2.toNat] := by
        rw [letL_eq]
        have := at_nat (l := letL) (i := r2.toNat) (x := letL[r2.toNat]) (by simp)
        rwa [Int.toNat_of_nonneg g1] at this
      refine ⟨_, e2, hS _ (letters ?_)⟩
      rw [letL_eq]
      exact List.getElem_mem _
    · intro l h3 h4
      rw [il] at h3
      have h3 : l.length = z := by simpa using h3
      have hl8 : isNm l := ⟨by omega, by omega, h4⟩
      refine ⟨l.map fun c => HD.St [c], .inl (by simp [Function.comp_def]), ?_, ?_, ?_⟩
      · have e0 : ((l.map fun c => HD.St [c]).map (·.length)).sum = l.length := ones_sum l
        have e00 : (Str.ofString "").length = 0 := by kernel_rfl
        rw [e0, e00]
        omega
      · rw [join_signs]
        exact Tm.okS_St (by omega) (fun c hc => by have := h4 c hc; omega)
      · rw [join_signs]
        intro r3 g1 g2
        by_cases c0 : decide (r3 = 0) = true
        · simp only [e_seq, e_next, e_ret, e_retN, e_if, e_asg, e_own, e_drop, e_c, e_var0, e_varS, e_op, e_test, e_and, e_or, e_not, e_andV, e_orV, e_notV, e_ifE, e_chain, e_nil, e_cons, e_tup, e_lst, e_cb, e_call, e_sl, e_part, e_noPart, e_items, e_rng1, e_lc, e_yes, e_fn, e_rho1, e_rho2, e_rho3, e_rho4, e_isi, e_ints, e_CT, e_lenS, e_lenT, e_lenL, e_addI, e_addS, e_addL, e_int, e_intB, e_ixT, e_ixL, e_ixS, e_at0, e_at1, e_at2, e_slT, e_slL, e_slS, e_tail, e_eqS, e_eqI, e_depS, e_depI, e_isiS, e_isiT, e_isiTT, e_isiTS, e_lcN, e_lcC, e_name, e_repl, e_inT, e_inL, e_inS, e_inTab, e_ixTab, e_is, e_isNot, e_eqv, e_nev, e_starts, D.bl.injEq, D.int.injEq, D.str.injEq, D.tup.injEq, exists_eq_left', exists_eq_left, true_and, and_true, and_self, if_true, if_false, ite_true, ite_false, Bool.false_eq_true, Bool.not_true, Bool.not_false, eq_self, List.set_cons_zero, List.set_cons_succ, List.getElem?_cons_zero, List.getElem?_cons_succ, List.length_cons, List.length_nil, List.replicate_zero, List.map_cons, List.map_nil, List.nil_append, List.cons_append, Nat.reduceAdd, Nat.zero_add, noOwn, wipeR, List.all_cons, List.all_nil, List.any_cons, List.any_nil, Bool.and_true, Bool.or_false, Bool.false_or, Bool.and_self, Bool.xor_false, Bool.false_xor, Bool.true_xor, decide_true, Option.some.injEq, e_itT, e_itL, e_itS, e_pl1, e_pl2, e_ty1, e_ty2, e_ok1, e_ok2, e_min, e_one, e_two, e_three, e_nnT, e_nnS, e_fl1, e_fl2, e_fl3, e_starts, e_st2, t_var_pair, t_var_box, t_var_half, t_var_shut, t_var_mark, t_var_mix, t_pair_var, t_pair_box, t_pair_half, t_pair_shut, t_pair_mark, t_pair_mix, t_box_var, t_box_pair, t_box_half, t_box_shut, t_box_mark, t_box_mix, t_half_var, t_half_pair, t_half_box, t_half_shut, t_half_mark, t_half_mix, t_shut_var, t_shut_pair, t_shut_box, t_shut_half, t_shut_mark, t_shut_mix, t_mark_var, t_mark_pair, t_mark_box, t_mark_half, t_mark_shut, t_mark_mix, t_mix_var, t_mix_pair, t_mix_box, t_mix_half, t_mix_shut, t_mix_mark, e_n2, e_n3, Int.reduceNeg, Bool.or_true, i_str_S, i_str_T, i_str_L, i_str_I, i_int_S, i_int_T, i_int_L, i_int_I, i_bool_S, i_bool_T, i_bool_L, i_bool_I, i_list_S, i_list_T, i_list_L, i_list_I, i_tuple_S, i_tuple_T, i_tuple_L, i_tuple_I, i_dict_S, i_dict_T, i_dict_L, i_dict_I, e_ty_int, e_ty_bool, e_ty_list, e_ty_dict, e_isi2, e_pl3, e_pl4, e_eqB, e_depB, e_ok3, e_r2, e_r3, e_r0, e_for, e_i1, e_p2, e_n0, e_n4, e_ln0, e_ln1, Int.reduceEq, Int.reduceLT, Int.reduceLE, decide_false, Option.isSome_some, Option.isSome_none, Bool.or_self, Bool.true_or, ↓reduceIte, c0]
          refine ⟨by decide, fun r4 g3 g4 => ?_⟩
          obtain ⟨x, e1, hx1⟩ := at_mem (xs := [D.str (Str.ofString "half"), D.str (Str.ofString "mix"), D.str (Str.ofString "pair"), D.str (Str.ofString "box"), D.str (Str.ofString "var"), D.str (Str.ofString "heard")]) g3 (by simpa using g4)
          have hw : ∃ w, x = .str (HD.St w) ∧ isNm w := by
            simp only [List.mem_cons, List.not_mem_nil, or_false] at hx1
            rcases hx1 with rfl | rfl | rfl | rfl | rfl | rfl
            · exact wd_half
            · exact wd_mix
            · exact wd_pair
            · exact wd_box
            · exact wd_var
            · exact wd_heard
          obtain ⟨w, rfl, hw⟩ := hw
          exact ⟨_, e1, next w hw none⟩
        · simp only [e_seq, e_next, e_ret, e_retN, e_if, e_asg, e_own, e_drop, e_c, e_var0, e_varS, e_op, e_test, e_and, e_or, e_not, e_andV, e_orV, e_notV, e_ifE, e_chain, e_nil, e_cons, e_tup, e_lst, e_cb, e_call, e_sl, e_part, e_noPart, e_items, e_rng1, e_lc, e_yes, e_fn, e_rho1, e_rho2, e_rho3, e_rho4, e_isi, e_ints, e_CT, e_lenS, e_lenT, e_lenL, e_addI, e_addS, e_addL, e_int, e_intB, e_ixT, e_ixL, e_ixS, e_at0, e_at1, e_at2, e_slT, e_slL, e_slS, e_tail, e_eqS, e_eqI, e_depS, e_depI, e_isiS, e_isiT, e_isiTT, e_isiTS, e_lcN, e_lcC, e_name, e_repl, e_inT, e_inL, e_inS, e_inTab, e_ixTab, e_is, e_isNot, e_eqv, e_nev, e_starts, D.bl.injEq, D.int.injEq, D.str.injEq, D.tup.injEq, exists_eq_left', exists_eq_left, true_and, and_true, and_self, if_true, if_false, ite_true, ite_false, Bool.false_eq_true, Bool.not_true, Bool.not_false, eq_self, List.set_cons_zero, List.set_cons_succ, List.getElem?_cons_zero, List.getElem?_cons_succ, List.length_cons, List.length_nil, List.replicate_zero, List.map_cons, List.map_nil, List.nil_append, List.cons_append, Nat.reduceAdd, Nat.zero_add, noOwn, wipeR, List.all_cons, List.all_nil, List.any_cons, List.any_nil, Bool.and_true, Bool.or_false, Bool.false_or, Bool.and_self, Bool.xor_false, Bool.false_xor, Bool.true_xor, decide_true, Option.some.injEq, e_itT, e_itL, e_itS, e_pl1, e_pl2, e_ty1, e_ty2, e_ok1, e_ok2, e_min, e_one, e_two, e_three, e_nnT, e_nnS, e_fl1, e_fl2, e_fl3, e_starts, e_st2, t_var_pair, t_var_box, t_var_half, t_var_shut, t_var_mark, t_var_mix, t_pair_var, t_pair_box, t_pair_half, t_pair_shut, t_pair_mark, t_pair_mix, t_box_var, t_box_pair, t_box_half, t_box_shut, t_box_mark, t_box_mix, t_half_var, t_half_pair, t_half_box, t_half_shut, t_half_mark, t_half_mix, t_shut_var, t_shut_pair, t_shut_box, t_shut_half, t_shut_mark, t_shut_mix, t_mark_var, t_mark_pair, t_mark_box, t_mark_half, t_mark_shut, t_mark_mix, t_mix_var, t_mix_pair, t_mix_box, t_mix_half, t_mix_shut, t_mix_mark, e_n2, e_n3, Int.reduceNeg, Bool.or_true, i_str_S, i_str_T, i_str_L, i_str_I, i_int_S, i_int_T, i_int_L, i_int_I, i_bool_S, i_bool_T, i_bool_L, i_bool_I, i_list_S, i_list_T, i_list_L, i_list_I, i_tuple_S, i_tuple_T, i_tuple_L, i_tuple_I, i_dict_S, i_dict_T, i_dict_L, i_dict_I, e_ty_int, e_ty_bool, e_ty_list, e_ty_dict, e_isi2, e_pl3, e_pl4, e_eqB, e_depB, e_ok3, e_r2, e_r3, e_r0, e_for, e_i1, e_p2, e_n0, e_n4, e_ln0, e_ln1, Int.reduceEq, Int.reduceLT, Int.reduceLE, decide_false, Option.isSome_some, Option.isSome_none, Bool.or_self, Bool.true_or, ↓reduceIte, c0]
          exact next l hl8 none
theorem sp_names {m : Nat} {Xd : Err → Prop} {Q : D → Prop} (hm : m ≤ 20) (k : ∀ L : List (List Nat), (∀ s ∈ L, isNm s) → L.length = m → Q (.lst (nmD L))) : m_law_names [.bag, .int m] Xd Q := by
  simp only [e_seq, e_next, e_ret, e_retN, e_if, e_asg, e_own, e_drop, e_c, e_var0, e_varS, e_op, e_test, e_and, e_or, e_not, e_andV, e_orV, e_notV, e_ifE, e_chain, e_nil, e_cons, e_tup, e_lst, e_cb, e_call, e_sl, e_part, e_noPart, e_items, e_rng1, e_lc, e_yes, e_fn, e_rho1, e_rho2, e_rho3, e_rho4, e_isi, e_ints, e_CT, e_lenS, e_lenT, e_lenL, e_addI, e_addS, e_addL, e_int, e_intB, e_ixT, e_ixL, e_ixS, e_at0, e_at1, e_at2, e_slT, e_slL, e_slS, e_tail, e_eqS, e_eqI, e_depS, e_depI, e_isiS, e_isiT, e_isiTT, e_isiTS, e_lcN, e_lcC, e_name, e_repl, e_inT, e_inL, e_inS, e_inTab, e_ixTab, e_is, e_isNot, e_eqv, e_nev, e_starts, D.bl.injEq, D.int.injEq, D.str.injEq, D.tup.injEq, exists_eq_left', exists_eq_left, true_and, and_true, and_self, if_true, if_false, ite_true, ite_false, Bool.false_eq_true, Bool.not_true, Bool.not_false, eq_self, List.set_cons_zero, List.set_cons_succ, List.getElem?_cons_zero, List.getElem?_cons_succ, List.length_cons, List.length_nil, List.replicate_zero, List.map_cons, List.map_nil, List.nil_append, List.cons_append, Nat.reduceAdd, Nat.zero_add, noOwn, wipeR, List.all_cons, List.all_nil, List.any_cons, List.any_nil, Bool.and_true, Bool.or_false, Bool.false_or, Bool.and_self, Bool.xor_false, Bool.false_xor, Bool.true_xor, decide_true, Option.some.injEq, e_itT, e_itL, e_itS, e_pl1, e_pl2, e_ty1, e_ty2, e_ok1, e_ok2, e_min, e_one, e_two, e_three, e_nnT, e_nnS, e_fl1, e_fl2, e_fl3, e_starts, e_st2, t_var_pair, t_var_box, t_var_half, t_var_shut, t_var_mark, t_var_mix, t_pair_var, t_pair_box, t_pair_half, t_pair_shut, t_pair_mark, t_pair_mix, t_box_var, t_box_pair, t_box_half, t_box_shut, t_box_mark, t_box_mix, t_half_var, t_half_pair, t_half_box, t_half_shut, t_half_mark, t_half_mix, t_shut_var, t_shut_pair, t_shut_box, t_shut_half, t_shut_mark, t_shut_mix, t_mark_var, t_mark_pair, t_mark_box, t_mark_half, t_mark_shut, t_mark_mix, t_mix_var, t_mix_pair, t_mix_box, t_mix_half, t_mix_shut, t_mix_mark, e_n2, e_n3, Int.reduceNeg, Bool.or_true, i_str_S, i_str_T, i_str_L, i_str_I, i_int_S, i_int_T, i_int_L, i_int_I, i_bool_S, i_bool_T, i_bool_L, i_bool_I, i_list_S, i_list_T, i_list_L, i_list_I, i_tuple_S, i_tuple_T, i_tuple_L, i_tuple_I, i_dict_S, i_dict_T, i_dict_L, i_dict_I, e_ty_int, e_ty_bool, e_ty_list, e_ty_dict, e_isi2, e_pl3, e_pl4, e_eqB, e_depB, e_ok3, e_r2, e_r3, e_r0, e_for, e_i1, e_p2, e_n0, e_n4, e_ln0, e_ln1, Int.reduceEq, Int.reduceLT, Int.reduceLE, decide_false, Option.isSome_some, Option.isSome_none, Bool.or_self, Bool.true_or, ↓reduceIte, m_law_names, Nat.zero_le]
  refine ⟨by omega, by omega, ?_⟩
  have il : (intsD 0 (m : Int).toNat).length = m := by simp [intsD]
  refine names_loop _ [] none none none (by simp) (by rw [il]; simp; omega) rfl fun L' x4 x5 x6 h1 h2 => ?_
  rw [il] at h2
  simp only [e_seq, e_next, e_ret, e_retN, e_if, e_asg, e_own, e_drop, e_c, e_var0, e_varS, e_op, e_test, e_and, e_or, e_not, e_andV, e_orV, e_notV, e_ifE, e_chain, e_nil, e_cons, e_tup, e_lst, e_cb, e_call, e_sl, e_part, e_noPart, e_items, e_rng1, e_lc, e_yes, e_fn, e_rho1, e_rho2, e_rho3, e_rho4, e_isi, e_ints, e_CT, e_lenS, e_lenT, e_lenL, e_addI, e_addS, e_addL, e_int, e_intB, e_ixT, e_ixL, e_ixS, e_at0, e_at1, e_at2, e_slT, e_slL, e_slS, e_tail, e_eqS, e_eqI, e_depS, e_depI, e_isiS, e_isiT, e_isiTT, e_isiTS, e_lcN, e_lcC, e_name, e_repl, e_inT, e_inL, e_inS, e_inTab, e_ixTab, e_is, e_isNot, e_eqv, e_nev, e_starts, D.bl.injEq, D.int.injEq, D.str.injEq, D.tup.injEq, exists_eq_left', exists_eq_left, true_and, and_true, and_self, if_true, if_false, ite_true, ite_false, Bool.false_eq_true, Bool.not_true, Bool.not_false, eq_self, List.set_cons_zero, List.set_cons_succ, List.getElem?_cons_zero, List.getElem?_cons_succ, List.length_cons, List.length_nil, List.replicate_zero, List.map_cons, List.map_nil, List.nil_append, List.cons_append, Nat.reduceAdd, Nat.zero_add, noOwn, wipeR, List.all_cons, List.all_nil, List.any_cons, List.any_nil, Bool.and_true, Bool.or_false, Bool.false_or, Bool.and_self, Bool.xor_false, Bool.false_xor, Bool.true_xor, decide_true, Option.some.injEq, e_itT, e_itL, e_itS, e_pl1, e_pl2, e_ty1, e_ty2, e_ok1, e_ok2, e_min, e_one, e_two, e_three, e_nnT, e_nnS, e_fl1, e_fl2, e_fl3, e_starts, e_st2, t_var_pair, t_var_box, t_var_half, t_var_shut, t_var_mark, t_var_mix, t_pair_var, t_pair_box, t_pair_half, t_pair_shut, t_pair_mark, t_pair_mix, t_box_var, t_box_pair, t_box_half, t_box_shut, t_box_mark, t_box_mix, t_half_var, t_half_pair, t_half_box, t_half_shut, t_half_mark, t_half_mix, t_shut_var, t_shut_pair, t_shut_box, t_shut_half, t_shut_mark, t_shut_mix, t_mark_var, t_mark_pair, t_mark_box, t_mark_half, t_mark_shut, t_mark_mix, t_mix_var, t_mix_pair, t_mix_box, t_mix_half, t_mix_shut, t_mix_mark, e_n2, e_n3, Int.reduceNeg, Bool.or_true, i_str_S, i_str_T, i_str_L, i_str_I, i_int_S, i_int_T, i_int_L, i_int_I, i_bool_S, i_bool_T, i_bool_L, i_bool_I, i_list_S, i_list_T, i_list_L, i_list_I, i_tuple_S, i_tuple_T, i_tuple_L, i_tuple_I, i_dict_S, i_dict_T, i_dict_L, i_dict_I, e_ty_int, e_ty_bool, e_ty_list, e_ty_dict, e_isi2, e_pl3, e_pl4, e_eqB, e_depB, e_ok3, e_r2, e_r3, e_r0, e_for, e_i1, e_p2, e_n0, e_n4, e_ln0, e_ln1, Int.reduceEq, Int.reduceLT, Int.reduceLE, decide_false, Option.isSome_some, Option.isSome_none, Bool.or_self, Bool.true_or, ↓reduceIte, dFrz, Sl.own.injEq]
  exact k L' h1 (by simpa using h2)
end
end K04
namespace K04
open PySem PyProof.Rows HD
section
variable {Xd : Err → Prop} {Q : D → Prop}
/-! ### a wide term -/
def prs : List Tm → List Tm
  | a :: b :: r => .pair a b :: prs r
  | r => r
def szs (l : List Tm) : Int := (l.map Tm.size).sum
theorem prs_size : ∀ l : List Tm, szs (prs l) = szs l
  | [] => rfl
  | [a] => rfl
  | a :: b :: r => by
    have := prs_size r
    simp only [prs, szs, List.map_cons, List.sum_cons, Tm.size] at this ⊢
    omega
theorem prs_len : ∀ l : List Tm, 2 * (prs l).length ≤ l.length + 1 ∧ (l ≠ [] → prs l ≠ [])
  | [] => by simp [prs]
  | [a] => by simp [prs]
  | a :: b :: r => by
    have := prs_len r
    simp [prs]
    omega
theorem prs_all {e : Int} (he : 1 ≤ e) : ∀ l : List Tm, (∀ t ∈ l, t.ok ∧ t.depth ≤ e) → ∀ t ∈ prs l, t.ok ∧ t.depth ≤ e + 1
  | [], h, t, ht => by simp [prs] at ht
  | [a], h, t, ht => by
    have := h a (by simp)
    simp [prs] at ht
    subst ht
    exact ⟨this.1, by omega⟩
  | a :: b :: r, h, t, ht => by
    rcases List.mem_cons.mp ht with rfl | ht
    · have h1 := h a (by simp)
      have h2 := h b (by simp)
      refine ⟨⟨h1.1, h2.1⟩, ?_⟩
      simp only [Tm.depth]
      omega
    · exact prs_all he r (fun x hx => h x (by simp [hx])) t ht
def tD (l : List Tm) : List D := l.map Tm.d
theorem prs_form : ∀ l : List Tm, tD (prs l) = ((List.range (l.length / 2)).map fun k => D.tup [.str "pair", (tD l).getD (2 * k) .non, (tD l).getD (2 * k + 1) .non]) ++ (tD l).drop (2 * (l.length / 2))
  | [] => rfl
  | [a] => by simp [prs, tD]
  | a :: b :: r => by
    have ih := prs_form r
    have e : (a :: b :: r).length / 2 = r.length / 2 + 1 := by simp only [List.length_cons]; omega
    have e2 : 2 * (r.length / 2 + 1) = 2 * (r.length / 2) + 2 := by omega
    rw [e, List.range_succ_eq_map, List.map_cons, List.map_map, e2]
    show Tm.d (.pair a b) :: tD (prs r) = _
    rw [ih]
    rfl
theorem wide_loop {De : DEnds} {x0 x1 : Option Sl} : ∀ (ds : List D) (rows : List Tm) (x3 x4 : Option Sl), rows ≠ [] → rows.length ≤ 2 ^ ds.length → rows.length ≤ 1000 → (∀ t ∈ rows, t.ok ∧ t.depth ≤ 8 - ds.length) → ds.length ≤ 7 →
    (∀ (t : Tm) (x3 x4 : Option Sl), t.ok → t.depth ≤ 8 → t.size = szs rows → De.nx [x0, x1, some (.val (.lst [t.d])), x3, x4, none]) →
    forD (tName 3) (dIfS (dTest (dOp rGt (dCB rLen (dCons (dVar 2) dNil)) (dC (.int 1)))) (dSeq (dAsg 4 (dLc (dRng1 (dCons (dOp rFd (dCB rLen (dCons (dVar 2) dNil)) (dC (.int 2))) dNil)) (tName 5) dYes (dTup (dCons (dC (.str "pair")) (dCons (dOp rIx (dVar 2) (dOp rMul (dC (.int 2)) (dVar 5))) (dCons (dOp rIx (dVar 2) (dOp rAdd (dOp rMul (dC (.int 2)) (dVar 5)) (dC (.int 1)))) dNil)))) [5])) (dAsg 2 (dOp rAdd (dVar 4) (dSl (dVar 2) (dPart (dOp rMul (dC (.int 2)) (dOp rFd (dCB rLen (dCons (dVar 2) dNil)) (dC (.int 2))))) dNoPart)))) dNext) ds De [x0, x1, some (.val (.lst (tD rows))), x3, x4, none]
  | [], rows, x3, x4, h0, h1, h9, h2, h3, k => by
    simp only [e_seq, e_next, e_ret, e_retN, e_if, e_asg, e_own, e_drop, e_c, e_var0, e_varS, e_op, e_test, e_and, e_or, e_not, e_andV, e_orV, e_notV, e_ifE, e_chain, e_nil, e_cons, e_tup, e_lst, e_cb, e_call, e_sl, e_part, e_noPart, e_items, e_rng1, e_lc, e_yes, e_fn, e_rho1, e_rho2, e_rho3, e_rho4, e_isi, e_ints, e_CT, e_lenS, e_lenT, e_lenL, e_addI, e_addS, e_addL, e_int, e_intB, e_ixT, e_ixL, e_ixS, e_at0, e_at1, e_at2, e_slT, e_slL, e_slS, e_tail, e_eqS, e_eqI, e_depS, e_depI, e_isiS, e_isiT, e_isiTT, e_isiTS, e_lcN, e_lcC, e_name, e_repl, e_inT, e_inL, e_inS, e_inTab, e_ixTab, e_is, e_isNot, e_eqv, e_nev, e_starts, D.bl.injEq, D.int.injEq, D.str.injEq, D.tup.injEq, exists_eq_left', exists_eq_left, true_and, and_true, and_self, if_true, if_false, ite_true, ite_false, Bool.false_eq_true, Bool.not_true, Bool.not_false, eq_self, List.set_cons_zero, List.set_cons_succ, List.getElem?_cons_zero, List.getElem?_cons_succ, List.length_cons, List.length_nil, List.replicate_zero, List.map_cons, List.map_nil, List.nil_append, List.cons_append, Nat.reduceAdd, Nat.zero_add, noOwn, wipeR, List.all_cons, List.all_nil, List.any_cons, List.any_nil, Bool.and_true, Bool.or_false, Bool.false_or, Bool.and_self, Bool.xor_false, Bool.false_xor, Bool.true_xor, decide_true, Option.some.injEq, e_itT, e_itL, e_itS, e_pl1, e_pl2, e_ty1, e_ty2, e_ok1, e_ok2, e_min, e_one, e_two, e_three, e_nnT, e_nnS, e_fl1, e_fl2, e_fl3, e_starts, e_st2, t_var_pair, t_var_box, t_var_half, t_var_shut, t_var_mark, t_var_mix, t_pair_var, t_pair_box, t_pair_half, t_pair_shut, t_pair_mark, t_pair_mix, t_box_var, t_box_pair, t_box_half, t_box_shut, t_box_mark, t_box_mix, t_half_var, t_half_pair, t_half_box, t_half_shut, t_half_mark, t_half_mix, t_shut_var, t_shut_pair, t_shut_box, t_shut_half, t_shut_mark, t_shut_mix, t_mark_var, t_mark_pair, t_mark_box, t_mark_half, t_mark_shut, t_mark_mix, t_mix_var, t_mix_pair, t_mix_box, t_mix_half, t_mix_shut, t_mix_mark, e_n2, e_n3, Int.reduceNeg, Bool.or_true, i_str_S, i_str_T, i_str_L, i_str_I, i_int_S, i_int_T, i_int_L, i_int_I, i_bool_S, i_bool_T, i_bool_L, i_bool_I, i_list_S, i_list_T, i_list_L, i_list_I, i_tuple_S, i_tuple_T, i_tuple_L, i_tuple_I, i_dict_S, i_dict_T, i_dict_L, i_dict_I, e_ty_int, e_ty_bool, e_ty_list, e_ty_dict, e_isi2, e_pl3, e_pl4, e_eqB, e_depB, e_ok3, e_r2, e_r3, e_r0, e_for, e_i1, e_p2, e_n0, e_n4, e_ln0, e_ln1, Int.reduceEq, Int.reduceLT, Int.reduceLE, decide_false, Option.isSome_some, Option.isSome_none, Bool.or_self, Bool.true_or, ↓reduceIte, e_forN]
    cases rows with
    | nil => exact absurd rfl h0
    | cons t r =>
      cases r with
      | nil => exact k t x3 x4 (h2 t (by simp)).1 (by have := (h2 t (by simp)).2; simp at this; omega) (by simp [szs])
      | cons u r => simp at h1
  | d :: r, rows, x3, x4, h0, h1, h9, h2, h3, k => by
    have ll : (tD rows).length = rows.length := by simp [tD]
    simp only [e_seq, e_next, e_ret, e_retN, e_if, e_asg, e_own, e_drop, e_c, e_var0, e_varS, e_op, e_test, e_and, e_or, e_not, e_andV, e_orV, e_notV, e_ifE, e_chain, e_nil, e_cons, e_tup, e_lst, e_cb, e_call, e_sl, e_part, e_noPart, e_items, e_rng1, e_lc, e_yes, e_fn, e_rho1, e_rho2, e_rho3, e_rho4, e_isi, e_ints, e_CT, e_lenS, e_lenT, e_lenL, e_addI, e_addS, e_addL, e_int, e_intB, e_ixT, e_ixL, e_ixS, e_at0, e_at1, e_at2, e_slT, e_slL, e_slS, e_tail, e_eqS, e_eqI, e_depS, e_depI, e_isiS, e_isiT, e_isiTT, e_isiTS, e_lcN, e_lcC, e_name, e_repl, e_inT, e_inL, e_inS, e_inTab, e_ixTab, e_is, e_isNot, e_eqv, e_nev, e_starts, D.bl.injEq, D.int.injEq, D.str.injEq, D.tup.injEq, exists_eq_left', exists_eq_left, true_and, and_true, and_self, if_true, if_false, ite_true, ite_false, Bool.false_eq_true, Bool.not_true, Bool.not_false, eq_self, List.set_cons_zero, List.set_cons_succ, List.getElem?_cons_zero, List.getElem?_cons_succ, List.length_cons, List.length_nil, List.replicate_zero, List.map_cons, List.map_nil, List.nil_append, List.cons_append, Nat.reduceAdd, Nat.zero_add, noOwn, wipeR, List.all_cons, List.all_nil, List.any_cons, List.any_nil, Bool.and_true, Bool.or_false, Bool.false_or, Bool.and_self, Bool.xor_false, Bool.false_xor, Bool.true_xor, decide_true, Option.some.injEq, e_itT, e_itL, e_itS, e_pl1, e_pl2, e_ty1, e_ty2, e_ok1, e_ok2, e_min, e_one, e_two, e_three, e_nnT, e_nnS, e_fl1, e_fl2, e_fl3, e_starts, e_st2, t_var_pair, t_var_box, t_var_half, t_var_shut, t_var_mark, t_var_mix, t_pair_var, t_pair_box, t_pair_half, t_pair_shut, t_pair_mark, t_pair_mix, t_box_var, t_box_pair, t_box_half, t_box_shut, t_box_mark, t_box_mix, t_half_var, t_half_pair, t_half_box, t_half_shut, t_half_mark, t_half_mix, t_shut_var, t_shut_pair, t_shut_box, t_shut_half, t_shut_mark, t_shut_mix, t_mark_var, t_mark_pair, t_mark_box, t_mark_half, t_mark_shut, t_mark_mix, t_mix_var, t_mix_pair, t_mix_box, t_mix_half, t_mix_shut, t_mix_mark, e_n2, e_n3, Int.reduceNeg, Bool.or_true, i_str_S, i_str_T, i_str_L, i_str_I, i_int_S, i_int_T, i_int_L, i_int_I, i_bool_S, i_bool_T, i_bool_L, i_bool_I, i_list_S, i_list_T, i_list_L, i_list_I, i_tuple_S, i_tuple_T, i_tuple_L, i_tuple_I, i_dict_S, i_dict_T, i_dict_L, i_dict_I, e_ty_int, e_ty_bool, e_ty_list, e_ty_dict, e_isi2, e_pl3, e_pl4, e_eqB, e_depB, e_ok3, e_r2, e_r3, e_r0, e_for, e_i1, e_p2, e_n0, e_n4, e_ln0, e_ln1, Int.reduceEq, Int.reduceLT, Int.reduceLE, decide_false, Option.isSome_some, Option.isSome_none, Bool.or_self, Bool.true_or, ↓reduceIte, e_forC, ll]
    by_cases c : decide ((1 : Int) < (rows.length : Int)) = true
    · simp only [e_seq, e_next, e_ret, e_retN, e_if, e_asg, e_own, e_drop, e_c, e_var0, e_varS, e_op, e_test, e_and, e_or, e_not, e_andV, e_orV, e_notV, e_ifE, e_chain, e_nil, e_cons, e_tup, e_lst, e_cb, e_call, e_sl, e_part, e_noPart, e_items, e_rng1, e_lc, e_yes, e_fn, e_rho1, e_rho2, e_rho3, e_rho4, e_isi, e_ints, e_CT, e_lenS, e_lenT, e_lenL, e_addI, e_addS, e_addL, e_int, e_intB, e_ixT, e_ixL, e_ixS, e_at0, e_at1, e_at2, e_slT, e_slL, e_slS, e_tail, e_eqS, e_eqI, e_depS, e_depI, e_isiS, e_isiT, e_isiTT, e_isiTS, e_lcN, e_lcC, e_name, e_repl, e_inT, e_inL, e_inS, e_inTab, e_ixTab, e_is, e_isNot, e_eqv, e_nev, e_starts, D.bl.injEq, D.int.injEq, D.str.injEq, D.tup.injEq, exists_eq_left', exists_eq_left, true_and, and_true, and_self, if_true, if_false, ite_true, ite_false, Bool.false_eq_true, Bool.not_true, Bool.not_false, eq_self, List.set_cons_zero, List.set_cons_succ, List.getElem?_cons_zero, List.getElem?_cons_succ, List.length_cons, List.length_nil, List.replicate_zero, List.map_cons, List.map_nil, List.nil_append, List.cons_append, Nat.reduceAdd, Nat.zero_add, noOwn, wipeR, List.all_cons, List.all_nil, List.any_cons, List.any_nil, Bool.and_true, Bool.or_false, Bool.false_or, Bool.and_self, Bool.xor_false, Bool.false_xor, Bool.true_xor, decide_true, Option.some.injEq, e_itT, e_itL, e_itS, e_pl1, e_pl2, e_ty1, e_ty2, e_ok1, e_ok2, e_min, e_one, e_two, e_three, e_nnT, e_nnS, e_fl1, e_fl2, e_fl3, e_starts, e_st2, t_var_pair, t_var_box, t_var_half, t_var_shut, t_var_mark, t_var_mix, t_pair_var, t_pair_box, t_pair_half, t_pair_shut, t_pair_mark, t_pair_mix, t_box_var, t_box_pair, t_box_half, t_box_shut, t_box_mark, t_box_mix, t_half_var, t_half_pair, t_half_box, t_half_shut, t_half_mark, t_half_mix, t_shut_var, t_shut_pair, t_shut_box, t_shut_half, t_shut_mark, t_shut_mix, t_mark_var, t_mark_pair, t_mark_box, t_mark_half, t_mark_shut, t_mark_mix, t_mix_var, t_mix_pair, t_mix_box, t_mix_half, t_mix_shut, t_mix_mark, e_n2, e_n3, Int.reduceNeg, Bool.or_true, i_str_S, i_str_T, i_str_L, i_str_I, i_int_S, i_int_T, i_int_L, i_int_I, i_bool_S, i_bool_T, i_bool_L, i_bool_I, i_list_S, i_list_T, i_list_L, i_list_I, i_tuple_S, i_tuple_T, i_tuple_L, i_tuple_I, i_dict_S, i_dict_T, i_dict_L, i_dict_I, e_ty_int, e_ty_bool, e_ty_list, e_ty_dict, e_isi2, e_pl3, e_pl4, e_eqB, e_depB, e_ok3, e_r2, e_r3, e_r0, e_for, e_i1, e_p2, e_n0, e_n4, e_ln0, e_ln1, Int.reduceEq, Int.reduceLT, Int.reduceLE, decide_false, Option.isSome_some, Option.isSome_none, Bool.or_self, Bool.true_or, ↓reduceIte, c]
      refine ⟨⟨by decide, by decide⟩, ?_⟩
      have e1 : ((rows.length : Int) / 2) = ((rows.length / 2 : Nat) : Int) := by omega
      rw [e1]
      refine ⟨by omega, by omega, ?_⟩
      have il : intsD 0 ((rows.length / 2 : Nat) : Int).toNat = (List.range (rows.length / 2)).map fun k : Nat => D.int (0 + (k : Int)) := by
        rw [Int.toNat_natCast]
        rfl
      rw [il]
      have big : rows.length + 1 ≤ sizeLine := Nat.le_trans (Nat.succ_le_succ h9) (by decide)
      refine lc_all (fun d => match d with | .int i => D.tup [.str "pair", (tD rows).getD (2 * i.toNat) .non, (tD rows).getD (2 * i.toNat + 1) .non] | d => d) _ _ (fun x hx S N hS => ?_) (by simp; omega) ?_
      · obtain ⟨j, hj, rfl⟩ := List.mem_map.mp hx
        have hj : j < rows.length / 2 := List.mem_range.mp hj
        have m1 : L2.CMul 2 (0 + (j : Int)) := .inl ⟨by decide, by decide⟩
        have g1 : (2 : Int) * (0 + (j : Int)) = ((2 * j : Nat) : Int) := by omega
        have g2 : ((2 * j : Nat) : Int) + 1 = ((2 * j + 1 : Nat) : Int) := by omega
        have a1 : L2.atI (tD rows) ((2 * j : Nat) : Int) = some ((tD rows).getD (2 * j) .non) := at_nat (by rw [List.getD_eq_getElem?_getD, List.getElem?_eq_getElem (by omega)]; rfl)
        have a2 : L2.atI (tD rows) ((2 * j + 1 : Nat) : Int) = some ((tD rows).getD (2 * j + 1) .non) := at_nat (by rw [List.getD_eq_getElem?_getD, List.getElem?_eq_getElem (by omega)]; rfl)
        have g3 : (0 + (j : Int)).toNat = j := by omega
        simp only [e_seq, e_next, e_ret, e_retN, e_if, e_asg, e_own, e_drop, e_c, e_var0, e_varS, e_op, e_test, e_and, e_or, e_not, e_andV, e_orV, e_notV, e_ifE, e_chain, e_nil, e_cons, e_tup, e_lst, e_cb, e_call, e_sl, e_part, e_noPart, e_items, e_rng1, e_lc, e_yes, e_fn, e_rho1, e_rho2, e_rho3, e_rho4, e_isi, e_ints, e_CT, e_lenS, e_lenT, e_lenL, e_addI, e_addS, e_addL, e_int, e_intB, e_ixT, e_ixL, e_ixS, e_at0, e_at1, e_at2, e_slT, e_slL, e_slS, e_tail, e_eqS, e_eqI, e_depS, e_depI, e_isiS, e_isiT, e_isiTT, e_isiTS, e_lcN, e_lcC, e_name, e_repl, e_inT, e_inL, e_inS, e_inTab, e_ixTab, e_is, e_isNot, e_eqv, e_nev, e_starts, D.bl.injEq, D.int.injEq, D.str.injEq, D.tup.injEq, exists_eq_left', exists_eq_left, true_and, and_true, and_self, if_true, if_false, ite_true, ite_false, Bool.false_eq_true, Bool.not_true, Bool.not_false, eq_self, List.set_cons_zero, List.set_cons_succ, List.getElem?_cons_zero, List.getElem?_cons_succ, List.length_cons, List.length_nil, List.replicate_zero, List.map_cons, List.map_nil, List.nil_append, List.cons_append, Nat.reduceAdd, Nat.zero_add, noOwn, wipeR, List.all_cons, List.all_nil, List.any_cons, List.any_nil, Bool.and_true, Bool.or_false, Bool.false_or, Bool.and_self, Bool.xor_false, Bool.false_xor, Bool.true_xor, decide_true, Option.some.injEq, e_itT, e_itL, e_itS, e_pl1, e_pl2, e_ty1, e_ty2, e_ok1, e_ok2, e_min, e_one, e_two, e_three, e_nnT, e_nnS, e_fl1, e_fl2, e_fl3, e_starts, e_st2, t_var_pair, t_var_box, t_var_half, t_var_shut, t_var_mark, t_var_mix, t_pair_var, t_pair_box, t_pair_half, t_pair_shut, t_pair_mark, t_pair_mix, t_box_var, t_box_pair, t_box_half, t_box_shut, t_box_mark, t_box_mix, t_half_var, t_half_pair, t_half_box, t_half_shut, t_half_mark, t_half_mix, t_shut_var, t_shut_pair, t_shut_box, t_shut_half, t_shut_mark, t_shut_mix, t_mark_var, t_mark_pair, t_mark_box, t_mark_half, t_mark_shut, t_mark_mix, t_mix_var, t_mix_pair, t_mix_box, t_mix_half, t_mix_shut, t_mix_mark, e_n2, e_n3, Int.reduceNeg, Bool.or_true, i_str_S, i_str_T, i_str_L, i_str_I, i_int_S, i_int_T, i_int_L, i_int_I, i_bool_S, i_bool_T, i_bool_L, i_bool_I, i_list_S, i_list_T, i_list_L, i_list_I, i_tuple_S, i_tuple_T, i_tuple_L, i_tuple_I, i_dict_S, i_dict_T, i_dict_L, i_dict_I, e_ty_int, e_ty_bool, e_ty_list, e_ty_dict, e_isi2, e_pl3, e_pl4, e_eqB, e_depB, e_ok3, e_r2, e_r3, e_r0, e_for, e_i1, e_p2, e_n0, e_n4, e_ln0, e_ln1, Int.reduceEq, Int.reduceLT, Int.reduceLE, decide_false, Option.isSome_some, Option.isSome_none, Bool.or_self, Bool.true_or, ↓reduceIte, m1, g1, g2, a1, a2]
        simp only [g3] at hS
        exact hS
      · have m2 : L2.CMul 2 ((rows.length / 2 : Nat) : Int) := .inl ⟨by decide, by decide⟩
        have g4 : (2 : Int) * ((rows.length / 2 : Nat) : Int) = ((2 * (rows.length / 2) : Nat) : Int) := by omega
        have cd : cutL (tD rows) (some ((2 * (rows.length / 2) : Nat) : Int)) none = (tD rows).drop (2 * (rows.length / 2)) := by
          unfold cutL
          rw [HT.sIx_nat, HT.sIx_none, ll, Nat.min_eq_left (by omega)]
          apply List.take_of_length_le
          simp [ll]
        have cdl : ((tD rows).drop (2 * (rows.length / 2))).length ≤ rows.length := by simp [ll]
        simp only [e_seq, e_next, e_ret, e_retN, e_if, e_asg, e_own, e_drop, e_c, e_var0, e_varS, e_op, e_test, e_and, e_or, e_not, e_andV, e_orV, e_notV, e_ifE, e_chain, e_nil, e_cons, e_tup, e_lst, e_cb, e_call, e_sl, e_part, e_noPart, e_items, e_rng1, e_lc, e_yes, e_fn, e_rho1, e_rho2, e_rho3, e_rho4, e_isi, e_ints, e_CT, e_lenS, e_lenT, e_lenL, e_addI, e_addS, e_addL, e_int, e_intB, e_ixT, e_ixL, e_ixS, e_at0, e_at1, e_at2, e_slT, e_slL, e_slS, e_tail, e_eqS, e_eqI, e_depS, e_depI, e_isiS, e_isiT, e_isiTT, e_isiTS, e_lcN, e_lcC, e_name, e_repl, e_inT, e_inL, e_inS, e_inTab, e_ixTab, e_is, e_isNot, e_eqv, e_nev, e_starts, D.bl.injEq, D.int.injEq, D.str.injEq, D.tup.injEq, exists_eq_left', exists_eq_left, true_and, and_true, and_self, if_true, if_false, ite_true, ite_false, Bool.false_eq_true, Bool.not_true, Bool.not_false, eq_self, List.set_cons_zero, List.set_cons_succ, List.getElem?_cons_zero, List.getElem?_cons_succ, List.length_cons, List.length_nil, List.replicate_zero, List.map_cons, List.map_nil, List.nil_append, List.cons_append, Nat.reduceAdd, Nat.zero_add, noOwn, wipeR, List.all_cons, List.all_nil, List.any_cons, List.any_nil, Bool.and_true, Bool.or_false, Bool.false_or, Bool.and_self, Bool.xor_false, Bool.false_xor, Bool.true_xor, decide_true, Option.some.injEq, e_itT, e_itL, e_itS, e_pl1, e_pl2, e_ty1, e_ty2, e_ok1, e_ok2, e_min, e_one, e_two, e_three, e_nnT, e_nnS, e_fl1, e_fl2, e_fl3, e_starts, e_st2, t_var_pair, t_var_box, t_var_half, t_var_shut, t_var_mark, t_var_mix, t_pair_var, t_pair_box, t_pair_half, t_pair_shut, t_pair_mark, t_pair_mix, t_box_var, t_box_pair, t_box_half, t_box_shut, t_box_mark, t_box_mix, t_half_var, t_half_pair, t_half_box, t_half_shut, t_half_mark, t_half_mix, t_shut_var, t_shut_pair, t_shut_box, t_shut_half, t_shut_mark, t_shut_mix, t_mark_var, t_mark_pair, t_mark_box, t_mark_half, t_mark_shut, t_mark_mix, t_mix_var, t_mix_pair, t_mix_box, t_mix_half, t_mix_shut, t_mix_mark, e_n2, e_n3, Int.reduceNeg, Bool.or_true, i_str_S, i_str_T, i_str_L, i_str_I, i_int_S, i_int_T, i_int_L, i_int_I, i_bool_S, i_bool_T, i_bool_L, i_bool_I, i_list_S, i_list_T, i_list_L, i_list_I, i_tuple_S, i_tuple_T, i_tuple_L, i_tuple_I, i_dict_S, i_dict_T, i_dict_L, i_dict_I, e_ty_int, e_ty_bool, e_ty_list, e_ty_dict, e_isi2, e_pl3, e_pl4, e_eqB, e_depB, e_ok3, e_r2, e_r3, e_r0, e_for, e_i1, e_p2, e_n0, e_n4, e_ln0, e_ln1, Int.reduceEq, Int.reduceLT, Int.reduceLE, decide_false, Option.isSome_some, Option.isSome_none, Bool.or_self, Bool.true_or, ↓reduceIte, m2, g4, cd, List.map_map, List.length_map, List.length_range]
        have g5 : ∀ j : Nat, (0 + (j : Int)).toNat = j := fun j => by omega
        refine ⟨⟨by decide, by decide⟩, ?_, ?_⟩
        · rw [List.length_drop, ll]
          omega
        have f1 : (List.range (rows.length / 2)).map ((fun d => match d with | .int i => D.tup [.str "pair", (tD rows).getD (2 * i.toNat) .non, (tD rows).getD (2 * i.toNat + 1) .non] | d => d) ∘ fun k : Nat => D.int (0 + (k : Int))) ++ (tD rows).drop (2 * (rows.length / 2)) = tD (prs rows) := by
          rw [prs_form]
          congr 1
          refine List.map_congr_left fun j _ => ?_
          simp only [Function.comp_apply, g5]
        rw [f1]
        have pl := prs_len rows
        have h3' : r.length + 1 ≤ 7 := by simpa using h3
        have p2 : 2 ^ (d :: r).length = 2 * 2 ^ r.length := by rw [List.length_cons, Nat.pow_succ]; omega
        have p3 : 1 ≤ 2 ^ r.length := Nat.pow_pos (by decide)
        refine wide_loop r (prs rows) _ _ (pl.2 h0) (by omega) (by omega) (fun t ht => ?_) (by omega) (fun t x3 x4 a1 a2 a3 => k t x3 x4 a1 a2 (by rw [a3, prs_size]))
        have := prs_all (e := 8 - ((d :: r).length : Int)) (by simp; omega) rows h2 t ht
        refine ⟨this.1, ?_⟩
        have q := this.2
        simp only [List.length_cons] at q
        omega
    · simp only [e_seq, e_next, e_ret, e_retN, e_if, e_asg, e_own, e_drop, e_c, e_var0, e_varS, e_op, e_test, e_and, e_or, e_not, e_andV, e_orV, e_notV, e_ifE, e_chain, e_nil, e_cons, e_tup, e_lst, e_cb, e_call, e_sl, e_part, e_noPart, e_items, e_rng1, e_lc, e_yes, e_fn, e_rho1, e_rho2, e_rho3, e_rho4, e_isi, e_ints, e_CT, e_lenS, e_lenT, e_lenL, e_addI, e_addS, e_addL, e_int, e_intB, e_ixT, e_ixL, e_ixS, e_at0, e_at1, e_at2, e_slT, e_slL, e_slS, e_tail, e_eqS, e_eqI, e_depS, e_depI, e_isiS, e_isiT, e_isiTT, e_isiTS, e_lcN, e_lcC, e_name, e_repl, e_inT, e_inL, e_inS, e_inTab, e_ixTab, e_is, e_isNot, e_eqv, e_nev, e_starts, D.bl.injEq, D.int.injEq, D.str.injEq, D.tup.injEq, exists_eq_left', exists_eq_left, true_and, and_true, and_self, if_true, if_false, ite_true, ite_false, Bool.false_eq_true, Bool.not_true, Bool.not_false, eq_self, List.set_cons_zero, List.set_cons_succ, List.getElem?_cons_zero, List.getElem?_cons_succ, List.length_cons, List.length_nil, List.replicate_zero, List.map_cons, List.map_nil, List.nil_append, List.cons_append, Nat.reduceAdd, Nat.zero_add, noOwn, wipeR, List.all_cons, List.all_nil, List.any_cons, List.any_nil, Bool.and_true, Bool.or_false, Bool.false_or, Bool.and_self, Bool.xor_false, Bool.false_xor, Bool.true_xor, decide_true, Option.some.injEq, e_itT, e_itL, e_itS, e_pl1, e_pl2, e_ty1, e_ty2, e_ok1, e_ok2, e_min, e_one, e_two, e_three, e_nnT, e_nnS, e_fl1, e_fl2, e_fl3, e_starts, e_st2, t_var_pair, t_var_box, t_var_half, t_var_shut, t_var_mark, t_var_mix, t_pair_var, t_pair_box, t_pair_half, t_pair_shut, t_pair_mark, t_pair_mix, t_box_var, t_box_pair, t_box_half, t_box_shut, t_box_mark, t_box_mix, t_half_var, t_half_pair, t_half_box, t_half_shut, t_half_mark, t_half_mix, t_shut_var, t_shut_pair, t_shut_box, t_shut_half, t_shut_mark, t_shut_mix, t_mark_var, t_mark_pair, t_mark_box, t_mark_half, t_mark_shut, t_mark_mix, t_mix_var, t_mix_pair, t_mix_box, t_mix_half, t_mix_shut, t_mix_mark, e_n2, e_n3, Int.reduceNeg, Bool.or_true, i_str_S, i_str_T, i_str_L, i_str_I, i_int_S, i_int_T, i_int_L, i_int_I, i_bool_S, i_bool_T, i_bool_L, i_bool_I, i_list_S, i_list_T, i_list_L, i_list_I, i_tuple_S, i_tuple_T, i_tuple_L, i_tuple_I, i_dict_S, i_dict_T, i_dict_L, i_dict_I, e_ty_int, e_ty_bool, e_ty_list, e_ty_dict, e_isi2, e_pl3, e_pl4, e_eqB, e_depB, e_ok3, e_r2, e_r3, e_r0, e_for, e_i1, e_p2, e_n0, e_n4, e_ln0, e_ln1, Int.reduceEq, Int.reduceLT, Int.reduceLE, decide_false, Option.isSome_some, Option.isSome_none, Bool.or_self, Bool.true_or, ↓reduceIte, c]
      have c1 : rows.length ≤ 1 := by
        have := of_decide_eq_false (Bool.eq_false_iff.mpr c)
        omega
      have p3 : 1 ≤ 2 ^ r.length := Nat.pow_pos (by decide)
      have h3' : r.length + 1 ≤ 7 := by simpa using h3
      refine wide_loop r rows _ _ h0 (by omega) h9 (fun t ht => ?_) (by omega) k
      have := h2 t ht
      refine ⟨this.1, ?_⟩
      have q := this.2
      simp only [List.length_cons] at q
      omega
theorem szs_nm : ∀ l : List Nat, ∀ f : Nat → List Nat, szs (l.map fun k => Tm.nm (f k)) = l.length
  | [], f => rfl
  | a :: r, f => by
    have := szs_nm r f
    simp only [szs, List.map_cons, List.sum_cons, Tm.size, List.length_cons] at this ⊢
    omega
theorem r7 : intsD 0 (Int.toNat 7) = [.int 0, .int 1, .int 2, .int 3, .int 4, .int 5, .int 6] := rfl
theorem sp_wide {L : List (List Nat)} {i : Int} {Xd : Err → Prop} {Q : D → Prop} (h : Nms L) (h1 : 1 ≤ i) (h2 : i ≤ 40) (k : ∀ t : Tm, t.ok → t.depth ≤ 8 → t.size ≤ 40 → Q t.d) : m_law_wide [.lst (nmD L), .int i] Xd Q := by
  have ll : (nmD L).length = L.length := by simp [nmD]
  have hL := h.2.1
  simp only [e_seq, e_next, e_ret, e_retN, e_if, e_asg, e_own, e_drop, e_c, e_var0, e_varS, e_op, e_test, e_and, e_or, e_not, e_andV, e_orV, e_notV, e_ifE, e_chain, e_nil, e_cons, e_tup, e_lst, e_cb, e_call, e_sl, e_part, e_noPart, e_items, e_rng1, e_lc, e_yes, e_fn, e_rho1, e_rho2, e_rho3, e_rho4, e_isi, e_ints, e_CT, e_lenS, e_lenT, e_lenL, e_addI, e_addS, e_addL, e_int, e_intB, e_ixT, e_ixL, e_ixS, e_at0, e_at1, e_at2, e_slT, e_slL, e_slS, e_tail, e_eqS, e_eqI, e_depS, e_depI, e_isiS, e_isiT, e_isiTT, e_isiTS, e_lcN, e_lcC, e_name, e_repl, e_inT, e_inL, e_inS, e_inTab, e_ixTab, e_is, e_isNot, e_eqv, e_nev, e_starts, D.bl.injEq, D.int.injEq, D.str.injEq, D.tup.injEq, exists_eq_left', exists_eq_left, true_and, and_true, and_self, if_true, if_false, ite_true, ite_false, Bool.false_eq_true, Bool.not_true, Bool.not_false, eq_self, List.set_cons_zero, List.set_cons_succ, List.getElem?_cons_zero, List.getElem?_cons_succ, List.length_cons, List.length_nil, List.replicate_zero, List.map_cons, List.map_nil, List.nil_append, List.cons_append, Nat.reduceAdd, Nat.zero_add, noOwn, wipeR, List.all_cons, List.all_nil, List.any_cons, List.any_nil, Bool.and_true, Bool.or_false, Bool.false_or, Bool.and_self, Bool.xor_false, Bool.false_xor, Bool.true_xor, decide_true, Option.some.injEq, e_itT, e_itL, e_itS, e_pl1, e_pl2, e_ty1, e_ty2, e_ok1, e_ok2, e_min, e_one, e_two, e_three, e_nnT, e_nnS, e_fl1, e_fl2, e_fl3, e_starts, e_st2, t_var_pair, t_var_box, t_var_half, t_var_shut, t_var_mark, t_var_mix, t_pair_var, t_pair_box, t_pair_half, t_pair_shut, t_pair_mark, t_pair_mix, t_box_var, t_box_pair, t_box_half, t_box_shut, t_box_mark, t_box_mix, t_half_var, t_half_pair, t_half_box, t_half_shut, t_half_mark, t_half_mix, t_shut_var, t_shut_pair, t_shut_box, t_shut_half, t_shut_mark, t_shut_mix, t_mark_var, t_mark_pair, t_mark_box, t_mark_half, t_mark_shut, t_mark_mix, t_mix_var, t_mix_pair, t_mix_box, t_mix_half, t_mix_shut, t_mix_mark, e_n2, e_n3, Int.reduceNeg, Bool.or_true, i_str_S, i_str_T, i_str_L, i_str_I, i_int_S, i_int_T, i_int_L, i_int_I, i_bool_S, i_bool_T, i_bool_L, i_bool_I, i_list_S, i_list_T, i_list_L, i_list_I, i_tuple_S, i_tuple_T, i_tuple_L, i_tuple_I, i_dict_S, i_dict_T, i_dict_L, i_dict_I, e_ty_int, e_ty_bool, e_ty_list, e_ty_dict, e_isi2, e_pl3, e_pl4, e_eqB, e_depB, e_ok3, e_r2, e_r3, e_r0, e_for, e_i1, e_p2, e_n0, e_n4, e_ln0, e_ln1, Int.reduceEq, Int.reduceLT, Int.reduceLE, decide_false, Option.isSome_some, Option.isSome_none, Bool.or_self, Bool.true_or, ↓reduceIte, m_law_wide, ll]
  refine ⟨by omega, by omega, ?_⟩
  have il : intsD 0 i.toNat = (List.range i.toNat).map fun k : Nat => D.int (0 + (k : Int)) := rfl
  rw [il]
  refine lc_all (fun d => match d with | .int j => (nmD L).getD (j.toNat % L.length) .non | d => d) _ _ (fun x hx S N hS => ?_) ?_ ?_
  · obtain ⟨j, hj, rfl⟩ := List.mem_map.mp hx
    have g3 : (0 + (j : Int)).toNat = j := by omega
    have g4 : (0 + (j : Int)) % (L.length : Int) = ((j % L.length : Nat) : Int) := by rw [Int.zero_add]; rfl
    have lt : j % L.length < L.length := Nat.mod_lt _ (by omega)
    have a1 : L2.atI (nmD L) ((j % L.length : Nat) : Int) = some ((nmD L).getD (j % L.length) .non) := at_nat (by rw [List.getD_eq_getElem?_getD, List.getElem?_eq_getElem (by omega)]; rfl)
    have p0 : (0 : Int) < (L.length : Int) := by omega
    simp only [e_seq, e_next, e_ret, e_retN, e_if, e_asg, e_own, e_drop, e_c, e_var0, e_varS, e_op, e_test, e_and, e_or, e_not, e_andV, e_orV, e_notV, e_ifE, e_chain, e_nil, e_cons, e_tup, e_lst, e_cb, e_call, e_sl, e_part, e_noPart, e_items, e_rng1, e_lc, e_yes, e_fn, e_rho1, e_rho2, e_rho3, e_rho4, e_isi, e_ints, e_CT, e_lenS, e_lenT, e_lenL, e_addI, e_addS, e_addL, e_int, e_intB, e_ixT, e_ixL, e_ixS, e_at0, e_at1, e_at2, e_slT, e_slL, e_slS, e_tail, e_eqS, e_eqI, e_depS, e_depI, e_isiS, e_isiT, e_isiTT, e_isiTS, e_lcN, e_lcC, e_name, e_repl, e_inT, e_inL, e_inS, e_inTab, e_ixTab, e_is, e_isNot, e_eqv, e_nev, e_starts, D.bl.injEq, D.int.injEq, D.str.injEq, D.tup.injEq, exists_eq_left', exists_eq_left, true_and, and_true, and_self, if_true, if_false, ite_true, ite_false, Bool.false_eq_true, Bool.not_true, Bool.not_false, eq_self, List.set_cons_zero, List.set_cons_succ, List.getElem?_cons_zero, List.getElem?_cons_succ, List.length_cons, List.length_nil, List.replicate_zero, List.map_cons, List.map_nil, List.nil_append, List.cons_append, Nat.reduceAdd, Nat.zero_add, noOwn, wipeR, List.all_cons, List.all_nil, List.any_cons, List.any_nil, Bool.and_true, Bool.or_false, Bool.false_or, Bool.and_self, Bool.xor_false, Bool.false_xor, Bool.true_xor, decide_true, Option.some.injEq, e_itT, e_itL, e_itS, e_pl1, e_pl2, e_ty1, e_ty2, e_ok1, e_ok2, e_min, e_one, e_two, e_three, e_nnT, e_nnS, e_fl1, e_fl2, e_fl3, e_starts, e_st2, t_var_pair, t_var_box, t_var_half, t_var_shut, t_var_mark, t_var_mix, t_pair_var, t_pair_box, t_pair_half, t_pair_shut, t_pair_mark, t_pair_mix, t_box_var, t_box_pair, t_box_half, t_box_shut, t_box_mark, t_box_mix, t_half_var, t_half_pair, t_half_box, t_half_shut, t_half_mark, t_half_mix, t_shut_var, t_shut_pair, t_shut_box, t_shut_half, t_shut_mark, t_shut_mix, t_mark_var, t_mark_pair, t_mark_box, t_mark_half, t_mark_shut, t_mark_mix, t_mix_var, t_mix_pair, t_mix_box, t_mix_half, t_mix_shut, t_mix_mark, e_n2, e_n3, Int.reduceNeg, Bool.or_true, i_str_S, i_str_T, i_str_L, i_str_I, i_int_S, i_int_T, i_int_L, i_int_I, i_bool_S, i_bool_T, i_bool_L, i_bool_I, i_list_S, i_list_T, i_list_L, i_list_I, i_tuple_S, i_tuple_T, i_tuple_L, i_tuple_I, i_dict_S, i_dict_T, i_dict_L, i_dict_I, e_ty_int, e_ty_bool, e_ty_list, e_ty_dict, e_isi2, e_pl3, e_pl4, e_eqB, e_depB, e_ok3, e_r2, e_r3, e_r0, e_for, e_i1, e_p2, e_n0, e_n4, e_ln0, e_ln1, Int.reduceEq, Int.reduceLT, Int.reduceLE, decide_false, Option.isSome_some, Option.isSome_none, Bool.or_self, Bool.true_or, ↓reduceIte, ll, g4, a1, p0]
    simp only [g3] at hS
    exact hS
  · simp only [List.length_nil, List.length_map, List.length_range]
    exact Nat.le_trans (show 0 + i.toNat ≤ 40 by omega) (by decide)
  · have f1 : ([] : List D) ++ ((List.range i.toNat).map fun k : Nat => D.int (0 + (k : Int))).map (fun d => match d with | .int j => (nmD L).getD (j.toNat % L.length) .non | d => d) = tD ((List.range i.toNat).map fun k => Tm.nm (L.getD (k % L.length) [])) := by
      rw [List.nil_append, tD, List.map_map, List.map_map]
      refine List.map_congr_left fun j _ => ?_
      have g3 : (0 + (j : Int)).toNat = j := by omega
      have lt : j % L.length < L.length := Nat.mod_lt _ (by omega)
      simp only [Function.comp_apply, g3, Tm.d]
      rw [List.getD_eq_getElem?_getD, List.getD_eq_getElem?_getD, List.getElem?_eq_getElem (by omega), List.getElem?_eq_getElem lt]
      simp [nmD]
    rw [f1]
    have rl : ((List.range i.toNat).map fun k => Tm.nm (L.getD (k % L.length) [])).length = i.toNat := by simp
    refine wide_loop (intsD 0 (Int.toNat 7)) _ _ _ ?_ ?_ ?_ ?_ ?_ ?_
    · intro e
      rw [e] at rl
      simp at rl
      omega
    · rw [rl, r7]
      simp
      omega
    · omega
    · intro t ht
      obtain ⟨j, hj, rfl⟩ := List.mem_map.mp ht
      have lt : j % L.length < L.length := Nat.mod_lt _ (by omega)
      refine ⟨?_, ?_⟩
      · rw [List.getD_eq_getElem?_getD, List.getElem?_eq_getElem lt]
        exact h.1 _ (List.getElem_mem _)
      · rw [r7]
        simp [Tm.depth]
    · rw [r7]
      simp
    · intro t x3 x4 a1 a2 a3
      simp only [e_seq, e_next, e_ret, e_retN, e_if, e_asg, e_own, e_drop, e_c, e_var0, e_varS, e_op, e_test, e_and, e_or, e_not, e_andV, e_orV, e_notV, e_ifE, e_chain, e_nil, e_cons, e_tup, e_lst, e_cb, e_call, e_sl, e_part, e_noPart, e_items, e_rng1, e_lc, e_yes, e_fn, e_rho1, e_rho2, e_rho3, e_rho4, e_isi, e_ints, e_CT, e_lenS, e_lenT, e_lenL, e_addI, e_addS, e_addL, e_int, e_intB, e_ixT, e_ixL, e_ixS, e_at0, e_at1, e_at2, e_slT, e_slL, e_slS, e_tail, e_eqS, e_eqI, e_depS, e_depI, e_isiS, e_isiT, e_isiTT, e_isiTS, e_lcN, e_lcC, e_name, e_repl, e_inT, e_inL, e_inS, e_inTab, e_ixTab, e_is, e_isNot, e_eqv, e_nev, e_starts, D.bl.injEq, D.int.injEq, D.str.injEq, D.tup.injEq, exists_eq_left', exists_eq_left, true_and, and_true, and_self, if_true, if_false, ite_true, ite_false, Bool.false_eq_true, Bool.not_true, Bool.not_false, eq_self, List.set_cons_zero, List.set_cons_succ, List.getElem?_cons_zero, List.getElem?_cons_succ, List.length_cons, List.length_nil, List.replicate_zero, List.map_cons, List.map_nil, List.nil_append, List.cons_append, Nat.reduceAdd, Nat.zero_add, noOwn, wipeR, List.all_cons, List.all_nil, List.any_cons, List.any_nil, Bool.and_true, Bool.or_false, Bool.false_or, Bool.and_self, Bool.xor_false, Bool.false_xor, Bool.true_xor, decide_true, Option.some.injEq, e_itT, e_itL, e_itS, e_pl1, e_pl2, e_ty1, e_ty2, e_ok1, e_ok2, e_min, e_one, e_two, e_three, e_nnT, e_nnS, e_fl1, e_fl2, e_fl3, e_starts, e_st2, t_var_pair, t_var_box, t_var_half, t_var_shut, t_var_mark, t_var_mix, t_pair_var, t_pair_box, t_pair_half, t_pair_shut, t_pair_mark, t_pair_mix, t_box_var, t_box_pair, t_box_half, t_box_shut, t_box_mark, t_box_mix, t_half_var, t_half_pair, t_half_box, t_half_shut, t_half_mark, t_half_mix, t_shut_var, t_shut_pair, t_shut_box, t_shut_half, t_shut_mark, t_shut_mix, t_mark_var, t_mark_pair, t_mark_box, t_mark_half, t_mark_shut, t_mark_mix, t_mix_var, t_mix_pair, t_mix_box, t_mix_half, t_mix_shut, t_mix_mark, e_n2, e_n3, Int.reduceNeg, Bool.or_true, i_str_S, i_str_T, i_str_L, i_str_I, i_int_S, i_int_T, i_int_L, i_int_I, i_bool_S, i_bool_T, i_bool_L, i_bool_I, i_list_S, i_list_T, i_list_L, i_list_I, i_tuple_S, i_tuple_T, i_tuple_L, i_tuple_I, i_dict_S, i_dict_T, i_dict_L, i_dict_I, e_ty_int, e_ty_bool, e_ty_list, e_ty_dict, e_isi2, e_pl3, e_pl4, e_eqB, e_depB, e_ok3, e_r2, e_r3, e_r0, e_for, e_i1, e_p2, e_n0, e_n4, e_ln0, e_ln1, Int.reduceEq, Int.reduceLT, Int.reduceLE, decide_false, Option.isSome_some, Option.isSome_none, Bool.or_self, Bool.true_or, ↓reduceIte]
      refine k t a1 a2 ?_
      rw [a3, szs_nm]
      simp
      omega
/-! ### a deep term -/
theorem nested_loop {L : List (List Nat)} {De : DEnds} {x3 : Option Sl} (h : Nms L) : ∀ (ds : List D) (t : Tm) (x4 x5 x6 : Option Sl), t.ok →
    (∀ (u : Tm) (x4 x5 x6 : Option Sl), u.ok → u.depth ≤ t.depth + ds.length → u.size ≤ t.size + ds.length → De.nx [some (.val .bag), some (.val (.lst (nmD L))), some (.val u.d), x3, x4, x5, x6]) →
    forD (tName 4) (dSeq (dAsg 5 (dCall m_law_pick (dCons (dVar 0) (dCons (dVar 1) dNil)))) (dSeq (dAsg 6 (dLst (dCons (dTup (dCons (dC (.str "mix")) (dCons (dVar 2) dNil))) (dCons (dTup (dCons (dC (.str "box")) (dCons (dVar 5) (dCons (dVar 2) dNil)))) (dCons (dTup (dCons (dC (.str "mark")) (dCons (dVar 5) (dCons (dVar 2) dNil)))) (dCons (dTup (dCons (dC (.str "shut")) (dCons (dVar 5) (dCons (dVar 2) dNil)))) dNil)))))) (dAsg 2 (dCall m_law_pick (dCons (dVar 0) (dCons (dVar 6) dNil)))))) ds De [some (.val .bag), some (.val (.lst (nmD L))), some (.val t.d), x3, x4, x5, x6]
  | [], t, x4, x5, x6, ht, k => by
    simp only [e_seq, e_next, e_ret, e_retN, e_if, e_asg, e_own, e_drop, e_c, e_var0, e_varS, e_op, e_test, e_and, e_or, e_not, e_andV, e_orV, e_notV, e_ifE, e_chain, e_nil, e_cons, e_tup, e_lst, e_cb, e_call, e_sl, e_part, e_noPart, e_items, e_rng1, e_lc, e_yes, e_fn, e_rho1, e_rho2, e_rho3, e_rho4, e_isi, e_ints, e_CT, e_lenS, e_lenT, e_lenL, e_addI, e_addS, e_addL, e_int, e_intB, e_ixT, e_ixL, e_ixS, e_at0, e_at1, e_at2, e_slT, e_slL, e_slS, e_tail, e_eqS, e_eqI, e_depS, e_depI, e_isiS, e_isiT, e_isiTT, e_isiTS, e_lcN, e_lcC, e_name, e_repl, e_inT, e_inL, e_inS, e_inTab, e_ixTab, e_is, e_isNot, e_eqv, e_nev, e_starts, D.bl.injEq, D.int.injEq, D.str.injEq, D.tup.injEq, exists_eq_left', exists_eq_left, true_and, and_true, and_self, if_true, if_false, ite_true, ite_false, Bool.false_eq_true, Bool.not_true, Bool.not_false, eq_self, List.set_cons_zero, List.set_cons_succ, List.getElem?_cons_zero, List.getElem?_cons_succ, List.length_cons, List.length_nil, List.replicate_zero, List.map_cons, List.map_nil, List.nil_append, List.cons_append, Nat.reduceAdd, Nat.zero_add, noOwn, wipeR, List.all_cons, List.all_nil, List.any_cons, List.any_nil, Bool.and_true, Bool.or_false, Bool.false_or, Bool.and_self, Bool.xor_false, Bool.false_xor, Bool.true_xor, decide_true, Option.some.injEq, e_itT, e_itL, e_itS, e_pl1, e_pl2, e_ty1, e_ty2, e_ok1, e_ok2, e_min, e_one, e_two, e_three, e_nnT, e_nnS, e_fl1, e_fl2, e_fl3, e_starts, e_st2, t_var_pair, t_var_box, t_var_half, t_var_shut, t_var_mark, t_var_mix, t_pair_var, t_pair_box, t_pair_half, t_pair_shut, t_pair_mark, t_pair_mix, t_box_var, t_box_pair, t_box_half, t_box_shut, t_box_mark, t_box_mix, t_half_var, t_half_pair, t_half_box, t_half_shut, t_half_mark, t_half_mix, t_shut_var, t_shut_pair, t_shut_box, t_shut_half, t_shut_mark, t_shut_mix, t_mark_var, t_mark_pair, t_mark_box, t_mark_half, t_mark_shut, t_mark_mix, t_mix_var, t_mix_pair, t_mix_box, t_mix_half, t_mix_shut, t_mix_mark, e_n2, e_n3, Int.reduceNeg, Bool.or_true, i_str_S, i_str_T, i_str_L, i_str_I, i_int_S, i_int_T, i_int_L, i_int_I, i_bool_S, i_bool_T, i_bool_L, i_bool_I, i_list_S, i_list_T, i_list_L, i_list_I, i_tuple_S, i_tuple_T, i_tuple_L, i_tuple_I, i_dict_S, i_dict_T, i_dict_L, i_dict_I, e_ty_int, e_ty_bool, e_ty_list, e_ty_dict, e_isi2, e_pl3, e_pl4, e_eqB, e_depB, e_ok3, e_r2, e_r3, e_r0, e_for, e_i1, e_p2, e_n0, e_n4, e_ln0, e_ln1, Int.reduceEq, Int.reduceLT, Int.reduceLE, decide_false, Option.isSome_some, Option.isSome_none, Bool.or_self, Bool.true_or, ↓reduceIte, e_forN]
    exact k t x4 x5 x6 ht (by simp) (by simp)
  | d :: r, t, x4, x5, x6, ht, k => by
    simp only [e_seq, e_next, e_ret, e_retN, e_if, e_asg, e_own, e_drop, e_c, e_var0, e_varS, e_op, e_test, e_and, e_or, e_not, e_andV, e_orV, e_notV, e_ifE, e_chain, e_nil, e_cons, e_tup, e_lst, e_cb, e_call, e_sl, e_part, e_noPart, e_items, e_rng1, e_lc, e_yes, e_fn, e_rho1, e_rho2, e_rho3, e_rho4, e_isi, e_ints, e_CT, e_lenS, e_lenT, e_lenL, e_addI, e_addS, e_addL, e_int, e_intB, e_ixT, e_ixL, e_ixS, e_at0, e_at1, e_at2, e_slT, e_slL, e_slS, e_tail, e_eqS, e_eqI, e_depS, e_depI, e_isiS, e_isiT, e_isiTT, e_isiTS, e_lcN, e_lcC, e_name, e_repl, e_inT, e_inL, e_inS, e_inTab, e_ixTab, e_is, e_isNot, e_eqv, e_nev, e_starts, D.bl.injEq, D.int.injEq, D.str.injEq, D.tup.injEq, exists_eq_left', exists_eq_left, true_and, and_true, and_self, if_true, if_false, ite_true, ite_false, Bool.false_eq_true, Bool.not_true, Bool.not_false, eq_self, List.set_cons_zero, List.set_cons_succ, List.getElem?_cons_zero, List.getElem?_cons_succ, List.length_cons, List.length_nil, List.replicate_zero, List.map_cons, List.map_nil, List.nil_append, List.cons_append, Nat.reduceAdd, Nat.zero_add, noOwn, wipeR, List.all_cons, List.all_nil, List.any_cons, List.any_nil, Bool.and_true, Bool.or_false, Bool.false_or, Bool.and_self, Bool.xor_false, Bool.false_xor, Bool.true_xor, decide_true, Option.some.injEq, e_itT, e_itL, e_itS, e_pl1, e_pl2, e_ty1, e_ty2, e_ok1, e_ok2, e_min, e_one, e_two, e_three, e_nnT, e_nnS, e_fl1, e_fl2, e_fl3, e_starts, e_st2, t_var_pair, t_var_box, t_var_half, t_var_shut, t_var_mark, t_var_mix, t_pair_var, t_pair_box, t_pair_half, t_pair_shut, t_pair_mark, t_pair_mix, t_box_var, t_box_pair, t_box_half, t_box_shut, t_box_mark, t_box_mix, t_half_var, t_half_pair, t_half_box, t_half_shut, t_half_mark, t_half_mix, t_shut_var, t_shut_pair, t_shut_box, t_shut_half, t_shut_mark, t_shut_mix, t_mark_var, t_mark_pair, t_mark_box, t_mark_half, t_mark_shut, t_mark_mix, t_mix_var, t_mix_pair, t_mix_box, t_mix_half, t_mix_shut, t_mix_mark, e_n2, e_n3, Int.reduceNeg, Bool.or_true, i_str_S, i_str_T, i_str_L, i_str_I, i_int_S, i_int_T, i_int_L, i_int_I, i_bool_S, i_bool_T, i_bool_L, i_bool_I, i_list_S, i_list_T, i_list_L, i_list_I, i_tuple_S, i_tuple_T, i_tuple_L, i_tuple_I, i_dict_S, i_dict_T, i_dict_L, i_dict_I, e_ty_int, e_ty_bool, e_ty_list, e_ty_dict, e_isi2, e_pl3, e_pl4, e_eqB, e_depB, e_ok3, e_r2, e_r3, e_r0, e_for, e_i1, e_p2, e_n0, e_n4, e_ln0, e_ln1, Int.reduceEq, Int.reduceLT, Int.reduceLE, decide_false, Option.isSome_some, Option.isSome_none, Bool.or_self, Bool.true_or, ↓reduceIte, e_forC]
    refine sp_pickN h fun s hs => ?_
    have l4 : (4 ≤ sizeLine) = True := eq_true (by decide)
    simp only [e_seq, e_next, e_ret, e_retN, e_if, e_asg, e_own, e_drop, e_c, e_var0, e_varS, e_op, e_test, e_and, e_or, e_not, e_andV, e_orV, e_notV, e_ifE, e_chain, e_nil, e_cons, e_tup, e_lst, e_cb, e_call, e_sl, e_part, e_noPart, e_items, e_rng1, e_lc, e_yes, e_fn, e_rho1, e_rho2, e_rho3, e_rho4, e_isi, e_ints, e_CT, e_lenS, e_lenT, e_lenL, e_addI, e_addS, e_addL, e_int, e_intB, e_ixT, e_ixL, e_ixS, e_at0, e_at1, e_at2, e_slT, e_slL, e_slS, e_tail, e_eqS, e_eqI, e_depS, e_depI, e_isiS, e_isiT, e_isiTT, e_isiTS, e_lcN, e_lcC, e_name, e_repl, e_inT, e_inL, e_inS, e_inTab, e_ixTab, e_is, e_isNot, e_eqv, e_nev, e_starts, D.bl.injEq, D.int.injEq, D.str.injEq, D.tup.injEq, exists_eq_left', exists_eq_left, true_and, and_true, and_self, if_true, if_false, ite_true, ite_false, Bool.false_eq_true, Bool.not_true, Bool.not_false, eq_self, List.set_cons_zero, List.set_cons_succ, List.getElem?_cons_zero, List.getElem?_cons_succ, List.length_cons, List.length_nil, List.replicate_zero, List.map_cons, List.map_nil, List.nil_append, List.cons_append, Nat.reduceAdd, Nat.zero_add, noOwn, wipeR, List.all_cons, List.all_nil, List.any_cons, List.any_nil, Bool.and_true, Bool.or_false, Bool.false_or, Bool.and_self, Bool.xor_false, Bool.false_xor, Bool.true_xor, decide_true, Option.some.injEq, e_itT, e_itL, e_itS, e_pl1, e_pl2, e_ty1, e_ty2, e_ok1, e_ok2, e_min, e_one, e_two, e_three, e_nnT, e_nnS, e_fl1, e_fl2, e_fl3, e_starts, e_st2, t_var_pair, t_var_box, t_var_half, t_var_shut, t_var_mark, t_var_mix, t_pair_var, t_pair_box, t_pair_half, t_pair_shut, t_pair_mark, t_pair_mix, t_box_var, t_box_pair, t_box_half, t_box_shut, t_box_mark, t_box_mix, t_half_var, t_half_pair, t_half_box, t_half_shut, t_half_mark, t_half_mix, t_shut_var, t_shut_pair, t_shut_box, t_shut_half, t_shut_mark, t_shut_mix, t_mark_var, t_mark_pair, t_mark_box, t_mark_half, t_mark_shut, t_mark_mix, t_mix_var, t_mix_pair, t_mix_box, t_mix_half, t_mix_shut, t_mix_mark, e_n2, e_n3, Int.reduceNeg, Bool.or_true, i_str_S, i_str_T, i_str_L, i_str_I, i_int_S, i_int_T, i_int_L, i_int_I, i_bool_S, i_bool_T, i_bool_L, i_bool_I, i_list_S, i_list_T, i_list_L, i_list_I, i_tuple_S, i_tuple_T, i_tuple_L, i_tuple_I, i_dict_S, i_dict_T, i_dict_L, i_dict_I, e_ty_int, e_ty_bool, e_ty_list, e_ty_dict, e_isi2, e_pl3, e_pl4, e_eqB, e_depB, e_ok3, e_r2, e_r3, e_r0, e_for, e_i1, e_p2, e_n0, e_n4, e_ln0, e_ln1, Int.reduceEq, Int.reduceLT, Int.reduceLE, decide_false, Option.isSome_some, Option.isSome_none, Bool.or_self, Bool.true_or, ↓reduceIte, l4, Tm.d]
    have tp := Tm.dpos t
    refine sp_pick (by simp) (by simp) fun x hx => ?_
    have nxt : ∀ u : Tm, u.ok → u.depth ≤ t.depth + 1 → u.size ≤ t.size + 1 → forD (tName 4) (dSeq (dAsg 5 (dCall m_law_pick (dCons (dVar 0) (dCons (dVar 1) dNil)))) (dSeq (dAsg 6 (dLst (dCons (dTup (dCons (dC (.str "mix")) (dCons (dVar 2) dNil))) (dCons (dTup (dCons (dC (.str "box")) (dCons (dVar 5) (dCons (dVar 2) dNil)))) (dCons (dTup (dCons (dC (.str "mark")) (dCons (dVar 5) (dCons (dVar 2) dNil)))) (dCons (dTup (dCons (dC (.str "shut")) (dCons (dVar 5) (dCons (dVar 2) dNil)))) dNil)))))) (dAsg 2 (dCall m_law_pick (dCons (dVar 0) (dCons (dVar 6) dNil)))))) r De [some (.val .bag), some (.val (.lst (nmD L))), some (.val u.d), x3, some (.val d), some (.val (.str (HD.St s))), some (.val (.lst [.tup [.str "mix", t.d], .tup [.str "box", .str (HD.St s), t.d], .tup [.str "mark", .str (HD.St s), t.d], .tup [.str "shut", .str (HD.St s), t.d]]))] := by
      intro u h1 h2 h3
      refine nested_loop h r u _ _ _ h1 fun v x4 x5 x6 a1 a2 a3 => k v x4 x5 x6 a1 ?_ ?_
      · simp only [List.length_cons]
        omega
      · simp only [List.length_cons]
        omega
    simp only [List.mem_cons, List.not_mem_nil, or_false] at hx
    rcases hx with rfl | rfl | rfl | rfl
    · exact nxt (.mix t) ht (by simp only [Tm.depth]; omega) (by simp only [Tm.size]; omega)
    · exact nxt (.box (.nm s) t) ⟨hs, ht⟩ (by simp only [Tm.depth]; omega) (by simp only [Tm.size]; omega)
    · exact nxt (.mark s t) ⟨hs, ht⟩ (by simp only [Tm.depth]; omega) (by simp only [Tm.size]; omega)
    · exact nxt (.shut s t) ⟨hs, ht⟩ (by simp only [Tm.depth]; omega) (by simp only [Tm.size]; omega)
theorem sp_nested {L : List (List Nat)} {t : Tm} {i : Int} {Xd : Err → Prop} {Q : D → Prop} (h : Nms L) (ht : t.ok) (h1 : 0 ≤ i) (h2 : i ≤ 100) (k : ∀ u : Tm, u.ok → u.depth ≤ t.depth + i → u.size ≤ t.size + i → Q u.d) : m_law_nested [.bag, .lst (nmD L), t.d, .int i] Xd Q := by
  simp only [e_seq, e_next, e_ret, e_retN, e_if, e_asg, e_own, e_drop, e_c, e_var0, e_varS, e_op, e_test, e_and, e_or, e_not, e_andV, e_orV, e_notV, e_ifE, e_chain, e_nil, e_cons, e_tup, e_lst, e_cb, e_call, e_sl, e_part, e_noPart, e_items, e_rng1, e_lc, e_yes, e_fn, e_rho1, e_rho2, e_rho3, e_rho4, e_isi, e_ints, e_CT, e_lenS, e_lenT, e_lenL, e_addI, e_addS, e_addL, e_int, e_intB, e_ixT, e_ixL, e_ixS, e_at0, e_at1, e_at2, e_slT, e_slL, e_slS, e_tail, e_eqS, e_eqI, e_depS, e_depI, e_isiS, e_isiT, e_isiTT, e_isiTS, e_lcN, e_lcC, e_name, e_repl, e_inT, e_inL, e_inS, e_inTab, e_ixTab, e_is, e_isNot, e_eqv, e_nev, e_starts, D.bl.injEq, D.int.injEq, D.str.injEq, D.tup.injEq, exists_eq_left', exists_eq_left, true_and, and_true, and_self, if_true, if_false, ite_true, ite_false, Bool.false_eq_true, Bool.not_true, Bool.not_false, eq_self, List.set_cons_zero, List.set_cons_succ, List.getElem?_cons_zero, List.getElem?_cons_succ, List.length_cons, List.length_nil, List.replicate_zero, List.map_cons, List.map_nil, List.nil_append, List.cons_append, Nat.reduceAdd, Nat.zero_add, noOwn, wipeR, List.all_cons, List.all_nil, List.any_cons, List.any_nil, Bool.and_true, Bool.or_false, Bool.false_or, Bool.and_self, Bool.xor_false, Bool.false_xor, Bool.true_xor, decide_true, Option.some.injEq, e_itT, e_itL, e_itS, e_pl1, e_pl2, e_ty1, e_ty2, e_ok1, e_ok2, e_min, e_one, e_two, e_three, e_nnT, e_nnS, e_fl1, e_fl2, e_fl3, e_starts, e_st2, t_var_pair, t_var_box, t_var_half, t_var_shut, t_var_mark, t_var_mix, t_pair_var, t_pair_box, t_pair_half, t_pair_shut, t_pair_mark, t_pair_mix, t_box_var, t_box_pair, t_box_half, t_box_shut, t_box_mark, t_box_mix, t_half_var, t_half_pair, t_half_box, t_half_shut, t_half_mark, t_half_mix, t_shut_var, t_shut_pair, t_shut_box, t_shut_half, t_shut_mark, t_shut_mix, t_mark_var, t_mark_pair, t_mark_box, t_mark_half, t_mark_shut, t_mark_mix, t_mix_var, t_mix_pair, t_mix_box, t_mix_half, t_mix_shut, t_mix_mark, e_n2, e_n3, Int.reduceNeg, Bool.or_true, i_str_S, i_str_T, i_str_L, i_str_I, i_int_S, i_int_T, i_int_L, i_int_I, i_bool_S, i_bool_T, i_bool_L, i_bool_I, i_list_S, i_list_T, i_list_L, i_list_I, i_tuple_S, i_tuple_T, i_tuple_L, i_tuple_I, i_dict_S, i_dict_T, i_dict_L, i_dict_I, e_ty_int, e_ty_bool, e_ty_list, e_ty_dict, e_isi2, e_pl3, e_pl4, e_eqB, e_depB, e_ok3, e_r2, e_r3, e_r0, e_for, e_i1, e_p2, e_n0, e_n4, e_ln0, e_ln1, Int.reduceEq, Int.reduceLT, Int.reduceLE, decide_false, Option.isSome_some, Option.isSome_none, Bool.or_self, Bool.true_or, ↓reduceIte, m_law_nested]
  refine ⟨by omega, by omega, ?_⟩
  have il : ((intsD 0 i.toNat).length : Int) = i := by simp [intsD]; omega
  refine nested_loop h _ t _ _ _ ht fun u x4 x5 x6 a1 a2 a3 => ?_
  simp only [e_seq, e_next, e_ret, e_retN, e_if, e_asg, e_own, e_drop, e_c, e_var0, e_varS, e_op, e_test, e_and, e_or, e_not, e_andV, e_orV, e_notV, e_ifE, e_chain, e_nil, e_cons, e_tup, e_lst, e_cb, e_call, e_sl, e_part, e_noPart, e_items, e_rng1, e_lc, e_yes, e_fn, e_rho1, e_rho2, e_rho3, e_rho4, e_isi, e_ints, e_CT, e_lenS, e_lenT, e_lenL, e_addI, e_addS, e_addL, e_int, e_intB, e_ixT, e_ixL, e_ixS, e_at0, e_at1, e_at2, e_slT, e_slL, e_slS, e_tail, e_eqS, e_eqI, e_depS, e_depI, e_isiS, e_isiT, e_isiTT, e_isiTS, e_lcN, e_lcC, e_name, e_repl, e_inT, e_inL, e_inS, e_inTab, e_ixTab, e_is, e_isNot, e_eqv, e_nev, e_starts, D.bl.injEq, D.int.injEq, D.str.injEq, D.tup.injEq, exists_eq_left', exists_eq_left, true_and, and_true, and_self, if_true, if_false, ite_true, ite_false, Bool.false_eq_true, Bool.not_true, Bool.not_false, eq_self, List.set_cons_zero, List.set_cons_succ, List.getElem?_cons_zero, List.getElem?_cons_succ, List.length_cons, List.length_nil, List.replicate_zero, List.map_cons, List.map_nil, List.nil_append, List.cons_append, Nat.reduceAdd, Nat.zero_add, noOwn, wipeR, List.all_cons, List.all_nil, List.any_cons, List.any_nil, Bool.and_true, Bool.or_false, Bool.false_or, Bool.and_self, Bool.xor_false, Bool.false_xor, Bool.true_xor, decide_true, Option.some.injEq, e_itT, e_itL, e_itS, e_pl1, e_pl2, e_ty1, e_ty2, e_ok1, e_ok2, e_min, e_one, e_two, e_three, e_nnT, e_nnS, e_fl1, e_fl2, e_fl3, e_starts, e_st2, t_var_pair, t_var_box, t_var_half, t_var_shut, t_var_mark, t_var_mix, t_pair_var, t_pair_box, t_pair_half, t_pair_shut, t_pair_mark, t_pair_mix, t_box_var, t_box_pair, t_box_half, t_box_shut, t_box_mark, t_box_mix, t_half_var, t_half_pair, t_half_box, t_half_shut, t_half_mark, t_half_mix, t_shut_var, t_shut_pair, t_shut_box, t_shut_half, t_shut_mark, t_shut_mix, t_mark_var, t_mark_pair, t_mark_box, t_mark_half, t_mark_shut, t_mark_mix, t_mix_var, t_mix_pair, t_mix_box, t_mix_half, t_mix_shut, t_mix_mark, e_n2, e_n3, Int.reduceNeg, Bool.or_true, i_str_S, i_str_T, i_str_L, i_str_I, i_int_S, i_int_T, i_int_L, i_int_I, i_bool_S, i_bool_T, i_bool_L, i_bool_I, i_list_S, i_list_T, i_list_L, i_list_I, i_tuple_S, i_tuple_T, i_tuple_L, i_tuple_I, i_dict_S, i_dict_T, i_dict_L, i_dict_I, e_ty_int, e_ty_bool, e_ty_list, e_ty_dict, e_isi2, e_pl3, e_pl4, e_eqB, e_depB, e_ok3, e_r2, e_r3, e_r0, e_for, e_i1, e_p2, e_n0, e_n4, e_ln0, e_ln1, Int.reduceEq, Int.reduceLT, Int.reduceLE, decide_false, Option.isSome_some, Option.isSome_none, Bool.or_self, Bool.true_or, ↓reduceIte]
  exact k u a1 (by omega) (by omega)
/-! ### the law -/
theorem ap3 {a : DE} {De : DEnds} {x0 x1 x2 x4 : Option Sl} {ds : List D} : dAppend 3 a De [x0, x1, x2, some (.own (.lst ds)), x4] = (a [x0, x1, x2, some (.own (.lst ds)), x4] (De.ex [x0, x1, x2, some (.own (.lst ds)), x4]) fun d => ds.length < sizeLine ∧ De.nx [x0, x1, x2, some (.own (.lst (ds ++ [d]))), x4]) :=
  propext ⟨fun ⟨_, e, h⟩ => by cases e; exact h, fun h => ⟨ds, rfl, h⟩⟩
theorem fz3 {s : DS} {De : DEnds} {x0 x1 x2 x4 : Option Sl} {d : D} : dFrz 3 s De [x0, x1, x2, some (.own d), x4] = s De [x0, x1, x2, some (.val d), x4] :=
  propext ⟨fun ⟨_, e, h⟩ => by cases e; exact h, fun h => ⟨d, rfl, h⟩⟩
def good (t : Tm) : Prop := t.ok ∧ t.depth ≤ 12 ∧ t.size ≤ 40
theorem law_ok : LawOk := by
  unfold LawOk
  have l4 : (4 ≤ sizeLine) = True := eq_true (by decide)
  simp only [e_seq, e_next, e_ret, e_retN, e_if, e_asg, e_own, e_drop, e_c, e_var0, e_varS, e_op, e_test, e_and, e_or, e_not, e_andV, e_orV, e_notV, e_ifE, e_chain, e_nil, e_cons, e_tup, e_lst, e_cb, e_call, e_sl, e_part, e_noPart, e_items, e_rng1, e_lc, e_yes, e_fn, e_rho1, e_rho2, e_rho3, e_rho4, e_isi, e_ints, e_CT, e_lenS, e_lenT, e_lenL, e_addI, e_addS, e_addL, e_int, e_intB, e_ixT, e_ixL, e_ixS, e_at0, e_at1, e_at2, e_slT, e_slL, e_slS, e_tail, e_eqS, e_eqI, e_depS, e_depI, e_isiS, e_isiT, e_isiTT, e_isiTS, e_lcN, e_lcC, e_name, e_repl, e_inT, e_inL, e_inS, e_inTab, e_ixTab, e_is, e_isNot, e_eqv, e_nev, e_starts, D.bl.injEq, D.int.injEq, D.str.injEq, D.tup.injEq, exists_eq_left', exists_eq_left, true_and, and_true, and_self, if_true, if_false, ite_true, ite_false, Bool.false_eq_true, Bool.not_true, Bool.not_false, eq_self, List.set_cons_zero, List.set_cons_succ, List.getElem?_cons_zero, List.getElem?_cons_succ, List.length_cons, List.length_nil, List.replicate_zero, List.map_cons, List.map_nil, List.nil_append, List.cons_append, Nat.reduceAdd, Nat.zero_add, noOwn, wipeR, List.all_cons, List.all_nil, List.any_cons, List.any_nil, Bool.and_true, Bool.or_false, Bool.false_or, Bool.and_self, Bool.xor_false, Bool.false_xor, Bool.true_xor, decide_true, Option.some.injEq, e_itT, e_itL, e_itS, e_pl1, e_pl2, e_ty1, e_ty2, e_ok1, e_ok2, e_min, e_one, e_two, e_three, e_nnT, e_nnS, e_fl1, e_fl2, e_fl3, e_starts, e_st2, t_var_pair, t_var_box, t_var_half, t_var_shut, t_var_mark, t_var_mix, t_pair_var, t_pair_box, t_pair_half, t_pair_shut, t_pair_mark, t_pair_mix, t_box_var, t_box_pair, t_box_half, t_box_shut, t_box_mark, t_box_mix, t_half_var, t_half_pair, t_half_box, t_half_shut, t_half_mark, t_half_mix, t_shut_var, t_shut_pair, t_shut_box, t_shut_half, t_shut_mark, t_shut_mix, t_mark_var, t_mark_pair, t_mark_box, t_mark_half, t_mark_shut, t_mark_mix, t_mix_var, t_mix_pair, t_mix_box, t_mix_half, t_mix_shut, t_mix_mark, e_n2, e_n3, Int.reduceNeg, Bool.or_true, i_str_S, i_str_T, i_str_L, i_str_I, i_int_S, i_int_T, i_int_L, i_int_I, i_bool_S, i_bool_T, i_bool_L, i_bool_I, i_list_S, i_list_T, i_list_L, i_list_I, i_tuple_S, i_tuple_T, i_tuple_L, i_tuple_I, i_dict_S, i_dict_T, i_dict_L, i_dict_I, e_ty_int, e_ty_bool, e_ty_list, e_ty_dict, e_isi2, e_pl3, e_pl4, e_eqB, e_depB, e_ok3, e_r2, e_r3, e_r0, e_for, e_i1, e_p2, e_n0, e_n4, e_ln0, e_ln1, Int.reduceEq, Int.reduceLT, Int.reduceLE, decide_false, Option.isSome_some, Option.isSome_none, Bool.or_self, Bool.true_or, ↓reduceIte, m_law]
  refine sp_names (m := 3) (by omega) fun L hL hl => ?_
  simp only [e_seq, e_next, e_ret, e_retN, e_if, e_asg, e_own, e_drop, e_c, e_var0, e_varS, e_op, e_test, e_and, e_or, e_not, e_andV, e_orV, e_notV, e_ifE, e_chain, e_nil, e_cons, e_tup, e_lst, e_cb, e_call, e_sl, e_part, e_noPart, e_items, e_rng1, e_lc, e_yes, e_fn, e_rho1, e_rho2, e_rho3, e_rho4, e_isi, e_ints, e_CT, e_lenS, e_lenT, e_lenL, e_addI, e_addS, e_addL, e_int, e_intB, e_ixT, e_ixL, e_ixS, e_at0, e_at1, e_at2, e_slT, e_slL, e_slS, e_tail, e_eqS, e_eqI, e_depS, e_depI, e_isiS, e_isiT, e_isiTT, e_isiTS, e_lcN, e_lcC, e_name, e_repl, e_inT, e_inL, e_inS, e_inTab, e_ixTab, e_is, e_isNot, e_eqv, e_nev, e_starts, D.bl.injEq, D.int.injEq, D.str.injEq, D.tup.injEq, exists_eq_left', exists_eq_left, true_and, and_true, and_self, if_true, if_false, ite_true, ite_false, Bool.false_eq_true, Bool.not_true, Bool.not_false, eq_self, List.set_cons_zero, List.set_cons_succ, List.getElem?_cons_zero, List.getElem?_cons_succ, List.length_cons, List.length_nil, List.replicate_zero, List.map_cons, List.map_nil, List.nil_append, List.cons_append, Nat.reduceAdd, Nat.zero_add, noOwn, wipeR, List.all_cons, List.all_nil, List.any_cons, List.any_nil, Bool.and_true, Bool.or_false, Bool.false_or, Bool.and_self, Bool.xor_false, Bool.false_xor, Bool.true_xor, decide_true, Option.some.injEq, e_itT, e_itL, e_itS, e_pl1, e_pl2, e_ty1, e_ty2, e_ok1, e_ok2, e_min, e_one, e_two, e_three, e_nnT, e_nnS, e_fl1, e_fl2, e_fl3, e_starts, e_st2, t_var_pair, t_var_box, t_var_half, t_var_shut, t_var_mark, t_var_mix, t_pair_var, t_pair_box, t_pair_half, t_pair_shut, t_pair_mark, t_pair_mix, t_box_var, t_box_pair, t_box_half, t_box_shut, t_box_mark, t_box_mix, t_half_var, t_half_pair, t_half_box, t_half_shut, t_half_mark, t_half_mix, t_shut_var, t_shut_pair, t_shut_box, t_shut_half, t_shut_mark, t_shut_mix, t_mark_var, t_mark_pair, t_mark_box, t_mark_half, t_mark_shut, t_mark_mix, t_mix_var, t_mix_pair, t_mix_box, t_mix_half, t_mix_shut, t_mix_mark, e_n2, e_n3, Int.reduceNeg, Bool.or_true, i_str_S, i_str_T, i_str_L, i_str_I, i_int_S, i_int_T, i_int_L, i_int_I, i_bool_S, i_bool_T, i_bool_L, i_bool_I, i_list_S, i_list_T, i_list_L, i_list_I, i_tuple_S, i_tuple_T, i_tuple_L, i_tuple_I, i_dict_S, i_dict_T, i_dict_L, i_dict_I, e_ty_int, e_ty_bool, e_ty_list, e_ty_dict, e_isi2, e_pl3, e_pl4, e_eqB, e_depB, e_ok3, e_r2, e_r3, e_r0, e_for, e_i1, e_p2, e_n0, e_n4, e_ln0, e_ln1, Int.reduceEq, Int.reduceLT, Int.reduceLE, decide_false, Option.isSome_some, Option.isSome_none, Bool.or_self, Bool.true_or, ↓reduceIte]
  refine sp_pick (by simp) (by simp) fun x hx => ?_
  have hw : ∃ w, x = .str (HD.St w) ∧ isNm w := by
    simp only [List.mem_cons, List.not_mem_nil, or_false] at hx
    rcases hx with rfl | rfl | rfl
    · exact wd_half
    · exact wd_mix
    · exact wd_a
  obtain ⟨w, rfl, hw⟩ := hw
  have hN : Nms (L ++ [w]) := ⟨fun s hs => by
    rcases List.mem_append.mp hs with q | q
    · exact hL s q
    · have : s = w := by simpa using q
      rw [this]
      exact hw, by simp, by simp; omega⟩
  have eN : nmD L ++ [D.str (HD.St w)] = nmD (L ++ [w]) := by simp [nmD]
  have ll : (nmD L).length = 3 := by simp [nmD, hl]
  simp only [e_seq, e_next, e_ret, e_retN, e_if, e_asg, e_own, e_drop, e_c, e_var0, e_varS, e_op, e_test, e_and, e_or, e_not, e_andV, e_orV, e_notV, e_ifE, e_chain, e_nil, e_cons, e_tup, e_lst, e_cb, e_call, e_sl, e_part, e_noPart, e_items, e_rng1, e_lc, e_yes, e_fn, e_rho1, e_rho2, e_rho3, e_rho4, e_isi, e_ints, e_CT, e_lenS, e_lenT, e_lenL, e_addI, e_addS, e_addL, e_int, e_intB, e_ixT, e_ixL, e_ixS, e_at0, e_at1, e_at2, e_slT, e_slL, e_slS, e_tail, e_eqS, e_eqI, e_depS, e_depI, e_isiS, e_isiT, e_isiTT, e_isiTS, e_lcN, e_lcC, e_name, e_repl, e_inT, e_inL, e_inS, e_inTab, e_ixTab, e_is, e_isNot, e_eqv, e_nev, e_starts, D.bl.injEq, D.int.injEq, D.str.injEq, D.tup.injEq, exists_eq_left', exists_eq_left, true_and, and_true, and_self, if_true, if_false, ite_true, ite_false, Bool.false_eq_true, Bool.not_true, Bool.not_false, eq_self, List.set_cons_zero, List.set_cons_succ, List.getElem?_cons_zero, List.getElem?_cons_succ, List.length_cons, List.length_nil, List.replicate_zero, List.map_cons, List.map_nil, List.nil_append, List.cons_append, Nat.reduceAdd, Nat.zero_add, noOwn, wipeR, List.all_cons, List.all_nil, List.any_cons, List.any_nil, Bool.and_true, Bool.or_false, Bool.false_or, Bool.and_self, Bool.xor_false, Bool.false_xor, Bool.true_xor, decide_true, Option.some.injEq, e_itT, e_itL, e_itS, e_pl1, e_pl2, e_ty1, e_ty2, e_ok1, e_ok2, e_min, e_one, e_two, e_three, e_nnT, e_nnS, e_fl1, e_fl2, e_fl3, e_starts, e_st2, t_var_pair, t_var_box, t_var_half, t_var_shut, t_var_mark, t_var_mix, t_pair_var, t_pair_box, t_pair_half, t_pair_shut, t_pair_mark, t_pair_mix, t_box_var, t_box_pair, t_box_half, t_box_shut, t_box_mark, t_box_mix, t_half_var, t_half_pair, t_half_box, t_half_shut, t_half_mark, t_half_mix, t_shut_var, t_shut_pair, t_shut_box, t_shut_half, t_shut_mark, t_shut_mix, t_mark_var, t_mark_pair, t_mark_box, t_mark_half, t_mark_shut, t_mark_mix, t_mix_var, t_mix_pair, t_mix_box, t_mix_half, t_mix_shut, t_mix_mark, e_n2, e_n3, Int.reduceNeg, Bool.or_true, i_str_S, i_str_T, i_str_L, i_str_I, i_int_S, i_int_T, i_int_L, i_int_I, i_bool_S, i_bool_T, i_bool_L, i_bool_I, i_list_S, i_list_T, i_list_L, i_list_I, i_tuple_S, i_tuple_T, i_tuple_L, i_tuple_I, i_dict_S, i_dict_T, i_dict_L, i_dict_I, e_ty_int, e_ty_bool, e_ty_list, e_ty_dict, e_isi2, e_pl3, e_pl4, e_eqB, e_depB, e_ok3, e_r2, e_r3, e_r0, e_for, e_i1, e_p2, e_n0, e_n4, e_ln0, e_ln1, Int.reduceEq, Int.reduceLT, Int.reduceLE, decide_false, Option.isSome_some, Option.isSome_none, Bool.or_self, Bool.true_or, ↓reduceIte, ll, l4, eN]
  have n3 : (3 < sizeLine) = True := eq_true (by decide)
  have n4 : (4 < sizeLine) = True := eq_true (by decide)
  have n5 : (5 < sizeLine) = True := eq_true (by decide)
  have n6 : (6 < sizeLine) = True := eq_true (by decide)
  have n7 : (7 < sizeLine) = True := eq_true (by decide)
  refine sp_term hN 3 4 rfl (by omega) fun t1 a1 b1 c1 => ?_
  refine sp_term hN 3 4 rfl (by omega) fun t2 a2 b2 c2 => ?_
  refine sp_pickN hN fun s3 a3 => ?_
  simp only [e_seq, e_next, e_ret, e_retN, e_if, e_asg, e_own, e_drop, e_c, e_var0, e_varS, e_op, e_test, e_and, e_or, e_not, e_andV, e_orV, e_notV, e_ifE, e_chain, e_nil, e_cons, e_tup, e_lst, e_cb, e_call, e_sl, e_part, e_noPart, e_items, e_rng1, e_lc, e_yes, e_fn, e_rho1, e_rho2, e_rho3, e_rho4, e_isi, e_ints, e_CT, e_lenS, e_lenT, e_lenL, e_addI, e_addS, e_addL, e_int, e_intB, e_ixT, e_ixL, e_ixS, e_at0, e_at1, e_at2, e_slT, e_slL, e_slS, e_tail, e_eqS, e_eqI, e_depS, e_depI, e_isiS, e_isiT, e_isiTT, e_isiTS, e_lcN, e_lcC, e_name, e_repl, e_inT, e_inL, e_inS, e_inTab, e_ixTab, e_is, e_isNot, e_eqv, e_nev, e_starts, D.bl.injEq, D.int.injEq, D.str.injEq, D.tup.injEq, exists_eq_left', exists_eq_left, true_and, and_true, and_self, if_true, if_false, ite_true, ite_false, Bool.false_eq_true, Bool.not_true, Bool.not_false, eq_self, List.set_cons_zero, List.set_cons_succ, List.getElem?_cons_zero, List.getElem?_cons_succ, List.length_cons, List.length_nil, List.replicate_zero, List.map_cons, List.map_nil, List.nil_append, List.cons_append, Nat.reduceAdd, Nat.zero_add, noOwn, wipeR, List.all_cons, List.all_nil, List.any_cons, List.any_nil, Bool.and_true, Bool.or_false, Bool.false_or, Bool.and_self, Bool.xor_false, Bool.false_xor, Bool.true_xor, decide_true, Option.some.injEq, e_itT, e_itL, e_itS, e_pl1, e_pl2, e_ty1, e_ty2, e_ok1, e_ok2, e_min, e_one, e_two, e_three, e_nnT, e_nnS, e_fl1, e_fl2, e_fl3, e_starts, e_st2, t_var_pair, t_var_box, t_var_half, t_var_shut, t_var_mark, t_var_mix, t_pair_var, t_pair_box, t_pair_half, t_pair_shut, t_pair_mark, t_pair_mix, t_box_var, t_box_pair, t_box_half, t_box_shut, t_box_mark, t_box_mix, t_half_var, t_half_pair, t_half_box, t_half_shut, t_half_mark, t_half_mix, t_shut_var, t_shut_pair, t_shut_box, t_shut_half, t_shut_mark, t_shut_mix, t_mark_var, t_mark_pair, t_mark_box, t_mark_half, t_mark_shut, t_mark_mix, t_mix_var, t_mix_pair, t_mix_box, t_mix_half, t_mix_shut, t_mix_mark, e_n2, e_n3, Int.reduceNeg, Bool.or_true, i_str_S, i_str_T, i_str_L, i_str_I, i_int_S, i_int_T, i_int_L, i_int_I, i_bool_S, i_bool_T, i_bool_L, i_bool_I, i_list_S, i_list_T, i_list_L, i_list_I, i_tuple_S, i_tuple_T, i_tuple_L, i_tuple_I, i_dict_S, i_dict_T, i_dict_L, i_dict_I, e_ty_int, e_ty_bool, e_ty_list, e_ty_dict, e_isi2, e_pl3, e_pl4, e_eqB, e_depB, e_ok3, e_r2, e_r3, e_r0, e_for, e_i1, e_p2, e_n0, e_n4, e_ln0, e_ln1, Int.reduceEq, Int.reduceLT, Int.reduceLE, decide_false, Option.isSome_some, Option.isSome_none, Bool.or_self, Bool.true_or, ↓reduceIte, ap3, e_draw]
  intro r r1 r2
  refine sp_wide hN (by omega) (by omega) fun t4 a4 b4 c4 => ?_
  simp only [e_seq, e_next, e_ret, e_retN, e_if, e_asg, e_own, e_drop, e_c, e_var0, e_varS, e_op, e_test, e_and, e_or, e_not, e_andV, e_orV, e_notV, e_ifE, e_chain, e_nil, e_cons, e_tup, e_lst, e_cb, e_call, e_sl, e_part, e_noPart, e_items, e_rng1, e_lc, e_yes, e_fn, e_rho1, e_rho2, e_rho3, e_rho4, e_isi, e_ints, e_CT, e_lenS, e_lenT, e_lenL, e_addI, e_addS, e_addL, e_int, e_intB, e_ixT, e_ixL, e_ixS, e_at0, e_at1, e_at2, e_slT, e_slL, e_slS, e_tail, e_eqS, e_eqI, e_depS, e_depI, e_isiS, e_isiT, e_isiTT, e_isiTS, e_lcN, e_lcC, e_name, e_repl, e_inT, e_inL, e_inS, e_inTab, e_ixTab, e_is, e_isNot, e_eqv, e_nev, e_starts, D.bl.injEq, D.int.injEq, D.str.injEq, D.tup.injEq, exists_eq_left', exists_eq_left, true_and, and_true, and_self, if_true, if_false, ite_true, ite_false, Bool.false_eq_true, Bool.not_true, Bool.not_false, eq_self, List.set_cons_zero, List.set_cons_succ, List.getElem?_cons_zero, List.getElem?_cons_succ, List.length_cons, List.length_nil, List.replicate_zero, List.map_cons, List.map_nil, List.nil_append, List.cons_append, Nat.reduceAdd, Nat.zero_add, noOwn, wipeR, List.all_cons, List.all_nil, List.any_cons, List.any_nil, Bool.and_true, Bool.or_false, Bool.false_or, Bool.and_self, Bool.xor_false, Bool.false_xor, Bool.true_xor, decide_true, Option.some.injEq, e_itT, e_itL, e_itS, e_pl1, e_pl2, e_ty1, e_ty2, e_ok1, e_ok2, e_min, e_one, e_two, e_three, e_nnT, e_nnS, e_fl1, e_fl2, e_fl3, e_starts, e_st2, t_var_pair, t_var_box, t_var_half, t_var_shut, t_var_mark, t_var_mix, t_pair_var, t_pair_box, t_pair_half, t_pair_shut, t_pair_mark, t_pair_mix, t_box_var, t_box_pair, t_box_half, t_box_shut, t_box_mark, t_box_mix, t_half_var, t_half_pair, t_half_box, t_half_shut, t_half_mark, t_half_mix, t_shut_var, t_shut_pair, t_shut_box, t_shut_half, t_shut_mark, t_shut_mix, t_mark_var, t_mark_pair, t_mark_box, t_mark_half, t_mark_shut, t_mark_mix, t_mix_var, t_mix_pair, t_mix_box, t_mix_half, t_mix_shut, t_mix_mark, e_n2, e_n3, Int.reduceNeg, Bool.or_true, i_str_S, i_str_T, i_str_L, i_str_I, i_int_S, i_int_T, i_int_L, i_int_I, i_bool_S, i_bool_T, i_bool_L, i_bool_I, i_list_S, i_list_T, i_list_L, i_list_I, i_tuple_S, i_tuple_T, i_tuple_L, i_tuple_I, i_dict_S, i_dict_T, i_dict_L, i_dict_I, e_ty_int, e_ty_bool, e_ty_list, e_ty_dict, e_isi2, e_pl3, e_pl4, e_eqB, e_depB, e_ok3, e_r2, e_r3, e_r0, e_for, e_i1, e_p2, e_n0, e_n4, e_ln0, e_ln1, Int.reduceEq, Int.reduceLT, Int.reduceLE, decide_false, Option.isSome_some, Option.isSome_none, Bool.or_self, Bool.true_or, ↓reduceIte, ap3, n3, e_draw]
  refine sp_term hN 2 3 rfl (by omega) fun t5 a5 b5 c5 => ?_
  refine sp_nested hN a5 (by omega) (by omega) fun t6 a6 b6 c6 => ?_
  simp only [e_seq, e_next, e_ret, e_retN, e_if, e_asg, e_own, e_drop, e_c, e_var0, e_varS, e_op, e_test, e_and, e_or, e_not, e_andV, e_orV, e_notV, e_ifE, e_chain, e_nil, e_cons, e_tup, e_lst, e_cb, e_call, e_sl, e_part, e_noPart, e_items, e_rng1, e_lc, e_yes, e_fn, e_rho1, e_rho2, e_rho3, e_rho4, e_isi, e_ints, e_CT, e_lenS, e_lenT, e_lenL, e_addI, e_addS, e_addL, e_int, e_intB, e_ixT, e_ixL, e_ixS, e_at0, e_at1, e_at2, e_slT, e_slL, e_slS, e_tail, e_eqS, e_eqI, e_depS, e_depI, e_isiS, e_isiT, e_isiTT, e_isiTS, e_lcN, e_lcC, e_name, e_repl, e_inT, e_inL, e_inS, e_inTab, e_ixTab, e_is, e_isNot, e_eqv, e_nev, e_starts, D.bl.injEq, D.int.injEq, D.str.injEq, D.tup.injEq, exists_eq_left', exists_eq_left, true_and, and_true, and_self, if_true, if_false, ite_true, ite_false, Bool.false_eq_true, Bool.not_true, Bool.not_false, eq_self, List.set_cons_zero, List.set_cons_succ, List.getElem?_cons_zero, List.getElem?_cons_succ, List.length_cons, List.length_nil, List.replicate_zero, List.map_cons, List.map_nil, List.nil_append, List.cons_append, Nat.reduceAdd, Nat.zero_add, noOwn, wipeR, List.all_cons, List.all_nil, List.any_cons, List.any_nil, Bool.and_true, Bool.or_false, Bool.false_or, Bool.and_self, Bool.xor_false, Bool.false_xor, Bool.true_xor, decide_true, Option.some.injEq, e_itT, e_itL, e_itS, e_pl1, e_pl2, e_ty1, e_ty2, e_ok1, e_ok2, e_min, e_one, e_two, e_three, e_nnT, e_nnS, e_fl1, e_fl2, e_fl3, e_starts, e_st2, t_var_pair, t_var_box, t_var_half, t_var_shut, t_var_mark, t_var_mix, t_pair_var, t_pair_box, t_pair_half, t_pair_shut, t_pair_mark, t_pair_mix, t_box_var, t_box_pair, t_box_half, t_box_shut, t_box_mark, t_box_mix, t_half_var, t_half_pair, t_half_box, t_half_shut, t_half_mark, t_half_mix, t_shut_var, t_shut_pair, t_shut_box, t_shut_half, t_shut_mark, t_shut_mix, t_mark_var, t_mark_pair, t_mark_box, t_mark_half, t_mark_shut, t_mark_mix, t_mix_var, t_mix_pair, t_mix_box, t_mix_half, t_mix_shut, t_mix_mark, e_n2, e_n3, Int.reduceNeg, Bool.or_true, i_str_S, i_str_T, i_str_L, i_str_I, i_int_S, i_int_T, i_int_L, i_int_I, i_bool_S, i_bool_T, i_bool_L, i_bool_I, i_list_S, i_list_T, i_list_L, i_list_I, i_tuple_S, i_tuple_T, i_tuple_L, i_tuple_I, i_dict_S, i_dict_T, i_dict_L, i_dict_I, e_ty_int, e_ty_bool, e_ty_list, e_ty_dict, e_isi2, e_pl3, e_pl4, e_eqB, e_depB, e_ok3, e_r2, e_r3, e_r0, e_for, e_i1, e_p2, e_n0, e_n4, e_ln0, e_ln1, Int.reduceEq, Int.reduceLT, Int.reduceLE, decide_false, Option.isSome_some, Option.isSome_none, Bool.or_self, Bool.true_or, ↓reduceIte, ap3, n4]
  refine sp_term hN 2 3 rfl (by omega) fun t7 a7 b7 c7 => ?_
  refine sp_term hN 2 3 rfl (by omega) fun t8 a8 b8 c8 => ?_
  simp only [e_seq, e_next, e_ret, e_retN, e_if, e_asg, e_own, e_drop, e_c, e_var0, e_varS, e_op, e_test, e_and, e_or, e_not, e_andV, e_orV, e_notV, e_ifE, e_chain, e_nil, e_cons, e_tup, e_lst, e_cb, e_call, e_sl, e_part, e_noPart, e_items, e_rng1, e_lc, e_yes, e_fn, e_rho1, e_rho2, e_rho3, e_rho4, e_isi, e_ints, e_CT, e_lenS, e_lenT, e_lenL, e_addI, e_addS, e_addL, e_int, e_intB, e_ixT, e_ixL, e_ixS, e_at0, e_at1, e_at2, e_slT, e_slL, e_slS, e_tail, e_eqS, e_eqI, e_depS, e_depI, e_isiS, e_isiT, e_isiTT, e_isiTS, e_lcN, e_lcC, e_name, e_repl, e_inT, e_inL, e_inS, e_inTab, e_ixTab, e_is, e_isNot, e_eqv, e_nev, e_starts, D.bl.injEq, D.int.injEq, D.str.injEq, D.tup.injEq, exists_eq_left', exists_eq_left, true_and, and_true, and_self, if_true, if_false, ite_true, ite_false, Bool.false_eq_true, Bool.not_true, Bool.not_false, eq_self, List.set_cons_zero, List.set_cons_succ, List.getElem?_cons_zero, List.getElem?_cons_succ, List.length_cons, List.length_nil, List.replicate_zero, List.map_cons, List.map_nil, List.nil_append, List.cons_append, Nat.reduceAdd, Nat.zero_add, noOwn, wipeR, List.all_cons, List.all_nil, List.any_cons, List.any_nil, Bool.and_true, Bool.or_false, Bool.false_or, Bool.and_self, Bool.xor_false, Bool.false_xor, Bool.true_xor, decide_true, Option.some.injEq, e_itT, e_itL, e_itS, e_pl1, e_pl2, e_ty1, e_ty2, e_ok1, e_ok2, e_min, e_one, e_two, e_three, e_nnT, e_nnS, e_fl1, e_fl2, e_fl3, e_starts, e_st2, t_var_pair, t_var_box, t_var_half, t_var_shut, t_var_mark, t_var_mix, t_pair_var, t_pair_box, t_pair_half, t_pair_shut, t_pair_mark, t_pair_mix, t_box_var, t_box_pair, t_box_half, t_box_shut, t_box_mark, t_box_mix, t_half_var, t_half_pair, t_half_box, t_half_shut, t_half_mark, t_half_mix, t_shut_var, t_shut_pair, t_shut_box, t_shut_half, t_shut_mark, t_shut_mix, t_mark_var, t_mark_pair, t_mark_box, t_mark_half, t_mark_shut, t_mark_mix, t_mix_var, t_mix_pair, t_mix_box, t_mix_half, t_mix_shut, t_mix_mark, e_n2, e_n3, Int.reduceNeg, Bool.or_true, i_str_S, i_str_T, i_str_L, i_str_I, i_int_S, i_int_T, i_int_L, i_int_I, i_bool_S, i_bool_T, i_bool_L, i_bool_I, i_list_S, i_list_T, i_list_L, i_list_I, i_tuple_S, i_tuple_T, i_tuple_L, i_tuple_I, i_dict_S, i_dict_T, i_dict_L, i_dict_I, e_ty_int, e_ty_bool, e_ty_list, e_ty_dict, e_isi2, e_pl3, e_pl4, e_eqB, e_depB, e_ok3, e_r2, e_r3, e_r0, e_for, e_i1, e_p2, e_n0, e_n4, e_ln0, e_ln1, Int.reduceEq, Int.reduceLT, Int.reduceLE, decide_false, Option.isSome_some, Option.isSome_none, Bool.or_self, Bool.true_or, ↓reduceIte, ap3, n5]
  refine sp_pickN hN fun s9 a9 => ?_
  refine sp_pickN hN fun s10 a10 => ?_
  simp only [e_seq, e_next, e_ret, e_retN, e_if, e_asg, e_own, e_drop, e_c, e_var0, e_varS, e_op, e_test, e_and, e_or, e_not, e_andV, e_orV, e_notV, e_ifE, e_chain, e_nil, e_cons, e_tup, e_lst, e_cb, e_call, e_sl, e_part, e_noPart, e_items, e_rng1, e_lc, e_yes, e_fn, e_rho1, e_rho2, e_rho3, e_rho4, e_isi, e_ints, e_CT, e_lenS, e_lenT, e_lenL, e_addI, e_addS, e_addL, e_int, e_intB, e_ixT, e_ixL, e_ixS, e_at0, e_at1, e_at2, e_slT, e_slL, e_slS, e_tail, e_eqS, e_eqI, e_depS, e_depI, e_isiS, e_isiT, e_isiTT, e_isiTS, e_lcN, e_lcC, e_name, e_repl, e_inT, e_inL, e_inS, e_inTab, e_ixTab, e_is, e_isNot, e_eqv, e_nev, e_starts, D.bl.injEq, D.int.injEq, D.str.injEq, D.tup.injEq, exists_eq_left', exists_eq_left, true_and, and_true, and_self, if_true, if_false, ite_true, ite_false, Bool.false_eq_true, Bool.not_true, Bool.not_false, eq_self, List.set_cons_zero, List.set_cons_succ, List.getElem?_cons_zero, List.getElem?_cons_succ, List.length_cons, List.length_nil, List.replicate_zero, List.map_cons, List.map_nil, List.nil_append, List.cons_append, Nat.reduceAdd, Nat.zero_add, noOwn, wipeR, List.all_cons, List.all_nil, List.any_cons, List.any_nil, Bool.and_true, Bool.or_false, Bool.false_or, Bool.and_self, Bool.xor_false, Bool.false_xor, Bool.true_xor, decide_true, Option.some.injEq, e_itT, e_itL, e_itS, e_pl1, e_pl2, e_ty1, e_ty2, e_ok1, e_ok2, e_min, e_one, e_two, e_three, e_nnT, e_nnS, e_fl1, e_fl2, e_fl3, e_starts, e_st2, t_var_pair, t_var_box, t_var_half, t_var_shut, t_var_mark, t_var_mix, t_pair_var, t_pair_box, t_pair_half, t_pair_shut, t_pair_mark, t_pair_mix, t_box_var, t_box_pair, t_box_half, t_box_shut, t_box_mark, t_box_mix, t_half_var, t_half_pair, t_half_box, t_half_shut, t_half_mark, t_half_mix, t_shut_var, t_shut_pair, t_shut_box, t_shut_half, t_shut_mark, t_shut_mix, t_mark_var, t_mark_pair, t_mark_box, t_mark_half, t_mark_shut, t_mark_mix, t_mix_var, t_mix_pair, t_mix_box, t_mix_half, t_mix_shut, t_mix_mark, e_n2, e_n3, Int.reduceNeg, Bool.or_true, i_str_S, i_str_T, i_str_L, i_str_I, i_int_S, i_int_T, i_int_L, i_int_I, i_bool_S, i_bool_T, i_bool_L, i_bool_I, i_list_S, i_list_T, i_list_L, i_list_I, i_tuple_S, i_tuple_T, i_tuple_L, i_tuple_I, i_dict_S, i_dict_T, i_dict_L, i_dict_I, e_ty_int, e_ty_bool, e_ty_list, e_ty_dict, e_isi2, e_pl3, e_pl4, e_eqB, e_depB, e_ok3, e_r2, e_r3, e_r0, e_for, e_i1, e_p2, e_n0, e_n4, e_ln0, e_ln1, Int.reduceEq, Int.reduceLT, Int.reduceLE, decide_false, Option.isSome_some, Option.isSome_none, Bool.or_self, Bool.true_or, ↓reduceIte, ap3, n6]
  refine sp_pickN hN fun s11 a11 => ?_
  refine sp_pickN hN fun s12 a12 => ?_
  simp only [e_seq, e_next, e_ret, e_retN, e_if, e_asg, e_own, e_drop, e_c, e_var0, e_varS, e_op, e_test, e_and, e_or, e_not, e_andV, e_orV, e_notV, e_ifE, e_chain, e_nil, e_cons, e_tup, e_lst, e_cb, e_call, e_sl, e_part, e_noPart, e_items, e_rng1, e_lc, e_yes, e_fn, e_rho1, e_rho2, e_rho3, e_rho4, e_isi, e_ints, e_CT, e_lenS, e_lenT, e_lenL, e_addI, e_addS, e_addL, e_int, e_intB, e_ixT, e_ixL, e_ixS, e_at0, e_at1, e_at2, e_slT, e_slL, e_slS, e_tail, e_eqS, e_eqI, e_depS, e_depI, e_isiS, e_isiT, e_isiTT, e_isiTS, e_lcN, e_lcC, e_name, e_repl, e_inT, e_inL, e_inS, e_inTab, e_ixTab, e_is, e_isNot, e_eqv, e_nev, e_starts, D.bl.injEq, D.int.injEq, D.str.injEq, D.tup.injEq, exists_eq_left', exists_eq_left, true_and, and_true, and_self, if_true, if_false, ite_true, ite_false, Bool.false_eq_true, Bool.not_true, Bool.not_false, eq_self, List.set_cons_zero, List.set_cons_succ, List.getElem?_cons_zero, List.getElem?_cons_succ, List.length_cons, List.length_nil, List.replicate_zero, List.map_cons, List.map_nil, List.nil_append, List.cons_append, Nat.reduceAdd, Nat.zero_add, noOwn, wipeR, List.all_cons, List.all_nil, List.any_cons, List.any_nil, Bool.and_true, Bool.or_false, Bool.false_or, Bool.and_self, Bool.xor_false, Bool.false_xor, Bool.true_xor, decide_true, Option.some.injEq, e_itT, e_itL, e_itS, e_pl1, e_pl2, e_ty1, e_ty2, e_ok1, e_ok2, e_min, e_one, e_two, e_three, e_nnT, e_nnS, e_fl1, e_fl2, e_fl3, e_starts, e_st2, t_var_pair, t_var_box, t_var_half, t_var_shut, t_var_mark, t_var_mix, t_pair_var, t_pair_box, t_pair_half, t_pair_shut, t_pair_mark, t_pair_mix, t_box_var, t_box_pair, t_box_half, t_box_shut, t_box_mark, t_box_mix, t_half_var, t_half_pair, t_half_box, t_half_shut, t_half_mark, t_half_mix, t_shut_var, t_shut_pair, t_shut_box, t_shut_half, t_shut_mark, t_shut_mix, t_mark_var, t_mark_pair, t_mark_box, t_mark_half, t_mark_shut, t_mark_mix, t_mix_var, t_mix_pair, t_mix_box, t_mix_half, t_mix_shut, t_mix_mark, e_n2, e_n3, Int.reduceNeg, Bool.or_true, i_str_S, i_str_T, i_str_L, i_str_I, i_int_S, i_int_T, i_int_L, i_int_I, i_bool_S, i_bool_T, i_bool_L, i_bool_I, i_list_S, i_list_T, i_list_L, i_list_I, i_tuple_S, i_tuple_T, i_tuple_L, i_tuple_I, i_dict_S, i_dict_T, i_dict_L, i_dict_I, e_ty_int, e_ty_bool, e_ty_list, e_ty_dict, e_isi2, e_pl3, e_pl4, e_eqB, e_depB, e_ok3, e_r2, e_r3, e_r0, e_for, e_i1, e_p2, e_n0, e_n4, e_ln0, e_ln1, Int.reduceEq, Int.reduceLT, Int.reduceLE, decide_false, Option.isSome_some, Option.isSome_none, Bool.or_self, Bool.true_or, ↓reduceIte, n7, fz3]
  simp at b1 b2 c1 c2 b5 c5 b7 c7 b8 c8
  have g0 : good t1 := ⟨a1, by omega, by omega⟩
  have g1 : good t2 := ⟨a2, by omega, by omega⟩
  have g2 : good (.nm s3) := ⟨a3, by simp [Tm.depth], by simp [Tm.size]⟩
  have g3 : good t4 := ⟨a4, by omega, by omega⟩
  have g4 : good t6 := ⟨a6, by omega, by omega⟩
  have g5 : good (.box t7 t8) := ⟨⟨a7, a8⟩, by simp only [Tm.depth]; omega, by simp only [Tm.size]; omega⟩
  have g6 : good (.pair (.half s9) (.nm s10)) := ⟨⟨a9, a10⟩, by simp only [Tm.depth]; omega, by simp only [Tm.size]; omega⟩
  have g7 : good (.mark s11 (.half s12)) := ⟨⟨a11, a12⟩, by simp only [Tm.depth]; omega, by simp only [Tm.size]; omega⟩
  refine sp_right g0.1 g0.2.1 g0.2.2 ?_
  simp only [e_seq, e_next, e_ret, e_retN, e_if, e_asg, e_own, e_drop, e_c, e_var0, e_varS, e_op, e_test, e_and, e_or, e_not, e_andV, e_orV, e_notV, e_ifE, e_chain, e_nil, e_cons, e_tup, e_lst, e_cb, e_call, e_sl, e_part, e_noPart, e_items, e_rng1, e_lc, e_yes, e_fn, e_rho1, e_rho2, e_rho3, e_rho4, e_isi, e_ints, e_CT, e_lenS, e_lenT, e_lenL, e_addI, e_addS, e_addL, e_int, e_intB, e_ixT, e_ixL, e_ixS, e_at0, e_at1, e_at2, e_slT, e_slL, e_slS, e_tail, e_eqS, e_eqI, e_depS, e_depI, e_isiS, e_isiT, e_isiTT, e_isiTS, e_lcN, e_lcC, e_name, e_repl, e_inT, e_inL, e_inS, e_inTab, e_ixTab, e_is, e_isNot, e_eqv, e_nev, e_starts, D.bl.injEq, D.int.injEq, D.str.injEq, D.tup.injEq, exists_eq_left', exists_eq_left, true_and, and_true, and_self, if_true, if_false, ite_true, ite_false, Bool.false_eq_true, Bool.not_true, Bool.not_false, eq_self, List.set_cons_zero, List.set_cons_succ, List.getElem?_cons_zero, List.getElem?_cons_succ, List.length_cons, List.length_nil, List.replicate_zero, List.map_cons, List.map_nil, List.nil_append, List.cons_append, Nat.reduceAdd, Nat.zero_add, noOwn, wipeR, List.all_cons, List.all_nil, List.any_cons, List.any_nil, Bool.and_true, Bool.or_false, Bool.false_or, Bool.and_self, Bool.xor_false, Bool.false_xor, Bool.true_xor, decide_true, Option.some.injEq, e_itT, e_itL, e_itS, e_pl1, e_pl2, e_ty1, e_ty2, e_ok1, e_ok2, e_min, e_one, e_two, e_three, e_nnT, e_nnS, e_fl1, e_fl2, e_fl3, e_starts, e_st2, t_var_pair, t_var_box, t_var_half, t_var_shut, t_var_mark, t_var_mix, t_pair_var, t_pair_box, t_pair_half, t_pair_shut, t_pair_mark, t_pair_mix, t_box_var, t_box_pair, t_box_half, t_box_shut, t_box_mark, t_box_mix, t_half_var, t_half_pair, t_half_box, t_half_shut, t_half_mark, t_half_mix, t_shut_var, t_shut_pair, t_shut_box, t_shut_half, t_shut_mark, t_shut_mix, t_mark_var, t_mark_pair, t_mark_box, t_mark_half, t_mark_shut, t_mark_mix, t_mix_var, t_mix_pair, t_mix_box, t_mix_half, t_mix_shut, t_mix_mark, e_n2, e_n3, Int.reduceNeg, Bool.or_true, i_str_S, i_str_T, i_str_L, i_str_I, i_int_S, i_int_T, i_int_L, i_int_I, i_bool_S, i_bool_T, i_bool_L, i_bool_I, i_list_S, i_list_T, i_list_L, i_list_I, i_tuple_S, i_tuple_T, i_tuple_L, i_tuple_I, i_dict_S, i_dict_T, i_dict_L, i_dict_I, e_ty_int, e_ty_bool, e_ty_list, e_ty_dict, e_isi2, e_pl3, e_pl4, e_eqB, e_depB, e_ok3, e_r2, e_r3, e_r0, e_for, e_i1, e_p2, e_n0, e_n4, e_ln0, e_ln1, Int.reduceEq, Int.reduceLT, Int.reduceLE, decide_false, Option.isSome_some, Option.isSome_none, Bool.or_self, Bool.true_or, ↓reduceIte]
  refine sp_right g1.1 g1.2.1 g1.2.2 ?_
  simp only [e_seq, e_next, e_ret, e_retN, e_if, e_asg, e_own, e_drop, e_c, e_var0, e_varS, e_op, e_test, e_and, e_or, e_not, e_andV, e_orV, e_notV, e_ifE, e_chain, e_nil, e_cons, e_tup, e_lst, e_cb, e_call, e_sl, e_part, e_noPart, e_items, e_rng1, e_lc, e_yes, e_fn, e_rho1, e_rho2, e_rho3, e_rho4, e_isi, e_ints, e_CT, e_lenS, e_lenT, e_lenL, e_addI, e_addS, e_addL, e_int, e_intB, e_ixT, e_ixL, e_ixS, e_at0, e_at1, e_at2, e_slT, e_slL, e_slS, e_tail, e_eqS, e_eqI, e_depS, e_depI, e_isiS, e_isiT, e_isiTT, e_isiTS, e_lcN, e_lcC, e_name, e_repl, e_inT, e_inL, e_inS, e_inTab, e_ixTab, e_is, e_isNot, e_eqv, e_nev, e_starts, D.bl.injEq, D.int.injEq, D.str.injEq, D.tup.injEq, exists_eq_left', exists_eq_left, true_and, and_true, and_self, if_true, if_false, ite_true, ite_false, Bool.false_eq_true, Bool.not_true, Bool.not_false, eq_self, List.set_cons_zero, List.set_cons_succ, List.getElem?_cons_zero, List.getElem?_cons_succ, List.length_cons, List.length_nil, List.replicate_zero, List.map_cons, List.map_nil, List.nil_append, List.cons_append, Nat.reduceAdd, Nat.zero_add, noOwn, wipeR, List.all_cons, List.all_nil, List.any_cons, List.any_nil, Bool.and_true, Bool.or_false, Bool.false_or, Bool.and_self, Bool.xor_false, Bool.false_xor, Bool.true_xor, decide_true, Option.some.injEq, e_itT, e_itL, e_itS, e_pl1, e_pl2, e_ty1, e_ty2, e_ok1, e_ok2, e_min, e_one, e_two, e_three, e_nnT, e_nnS, e_fl1, e_fl2, e_fl3, e_starts, e_st2, t_var_pair, t_var_box, t_var_half, t_var_shut, t_var_mark, t_var_mix, t_pair_var, t_pair_box, t_pair_half, t_pair_shut, t_pair_mark, t_pair_mix, t_box_var, t_box_pair, t_box_half, t_box_shut, t_box_mark, t_box_mix, t_half_var, t_half_pair, t_half_box, t_half_shut, t_half_mark, t_half_mix, t_shut_var, t_shut_pair, t_shut_box, t_shut_half, t_shut_mark, t_shut_mix, t_mark_var, t_mark_pair, t_mark_box, t_mark_half, t_mark_shut, t_mark_mix, t_mix_var, t_mix_pair, t_mix_box, t_mix_half, t_mix_shut, t_mix_mark, e_n2, e_n3, Int.reduceNeg, Bool.or_true, i_str_S, i_str_T, i_str_L, i_str_I, i_int_S, i_int_T, i_int_L, i_int_I, i_bool_S, i_bool_T, i_bool_L, i_bool_I, i_list_S, i_list_T, i_list_L, i_list_I, i_tuple_S, i_tuple_T, i_tuple_L, i_tuple_I, i_dict_S, i_dict_T, i_dict_L, i_dict_I, e_ty_int, e_ty_bool, e_ty_list, e_ty_dict, e_isi2, e_pl3, e_pl4, e_eqB, e_depB, e_ok3, e_r2, e_r3, e_r0, e_for, e_i1, e_p2, e_n0, e_n4, e_ln0, e_ln1, Int.reduceEq, Int.reduceLT, Int.reduceLE, decide_false, Option.isSome_some, Option.isSome_none, Bool.or_self, Bool.true_or, ↓reduceIte]
  refine sp_right g2.1 g2.2.1 g2.2.2 ?_
  simp only [e_seq, e_next, e_ret, e_retN, e_if, e_asg, e_own, e_drop, e_c, e_var0, e_varS, e_op, e_test, e_and, e_or, e_not, e_andV, e_orV, e_notV, e_ifE, e_chain, e_nil, e_cons, e_tup, e_lst, e_cb, e_call, e_sl, e_part, e_noPart, e_items, e_rng1, e_lc, e_yes, e_fn, e_rho1, e_rho2, e_rho3, e_rho4, e_isi, e_ints, e_CT, e_lenS, e_lenT, e_lenL, e_addI, e_addS, e_addL, e_int, e_intB, e_ixT, e_ixL, e_ixS, e_at0, e_at1, e_at2, e_slT, e_slL, e_slS, e_tail, e_eqS, e_eqI, e_depS, e_depI, e_isiS, e_isiT, e_isiTT, e_isiTS, e_lcN, e_lcC, e_name, e_repl, e_inT, e_inL, e_inS, e_inTab, e_ixTab, e_is, e_isNot, e_eqv, e_nev, e_starts, D.bl.injEq, D.int.injEq, D.str.injEq, D.tup.injEq, exists_eq_left', exists_eq_left, true_and, and_true, and_self, if_true, if_false, ite_true, ite_false, Bool.false_eq_true, Bool.not_true, Bool.not_false, eq_self, List.set_cons_zero, List.set_cons_succ, List.getElem?_cons_zero, List.getElem?_cons_succ, List.length_cons, List.length_nil, List.replicate_zero, List.map_cons, List.map_nil, List.nil_append, List.cons_append, Nat.reduceAdd, Nat.zero_add, noOwn, wipeR, List.all_cons, List.all_nil, List.any_cons, List.any_nil, Bool.and_true, Bool.or_false, Bool.false_or, Bool.and_self, Bool.xor_false, Bool.false_xor, Bool.true_xor, decide_true, Option.some.injEq, e_itT, e_itL, e_itS, e_pl1, e_pl2, e_ty1, e_ty2, e_ok1, e_ok2, e_min, e_one, e_two, e_three, e_nnT, e_nnS, e_fl1, e_fl2, e_fl3, e_starts, e_st2, t_var_pair, t_var_box, t_var_half, t_var_shut, t_var_mark, t_var_mix, t_pair_var, t_pair_box, t_pair_half, t_pair_shut, t_pair_mark, t_pair_mix, t_box_var, t_box_pair, t_box_half, t_box_shut, t_box_mark, t_box_mix, t_half_var, t_half_pair, t_half_box, t_half_shut, t_half_mark, t_half_mix, t_shut_var, t_shut_pair, t_shut_box, t_shut_half, t_shut_mark, t_shut_mix, t_mark_var, t_mark_pair, t_mark_box, t_mark_half, t_mark_shut, t_mark_mix, t_mix_var, t_mix_pair, t_mix_box, t_mix_half, t_mix_shut, t_mix_mark, e_n2, e_n3, Int.reduceNeg, Bool.or_true, i_str_S, i_str_T, i_str_L, i_str_I, i_int_S, i_int_T, i_int_L, i_int_I, i_bool_S, i_bool_T, i_bool_L, i_bool_I, i_list_S, i_list_T, i_list_L, i_list_I, i_tuple_S, i_tuple_T, i_tuple_L, i_tuple_I, i_dict_S, i_dict_T, i_dict_L, i_dict_I, e_ty_int, e_ty_bool, e_ty_list, e_ty_dict, e_isi2, e_pl3, e_pl4, e_eqB, e_depB, e_ok3, e_r2, e_r3, e_r0, e_for, e_i1, e_p2, e_n0, e_n4, e_ln0, e_ln1, Int.reduceEq, Int.reduceLT, Int.reduceLE, decide_false, Option.isSome_some, Option.isSome_none, Bool.or_self, Bool.true_or, ↓reduceIte]
  refine sp_right g3.1 g3.2.1 g3.2.2 ?_
  simp only [e_seq, e_next, e_ret, e_retN, e_if, e_asg, e_own, e_drop, e_c, e_var0, e_varS, e_op, e_test, e_and, e_or, e_not, e_andV, e_orV, e_notV, e_ifE, e_chain, e_nil, e_cons, e_tup, e_lst, e_cb, e_call, e_sl, e_part, e_noPart, e_items, e_rng1, e_lc, e_yes, e_fn, e_rho1, e_rho2, e_rho3, e_rho4, e_isi, e_ints, e_CT, e_lenS, e_lenT, e_lenL, e_addI, e_addS, e_addL, e_int, e_intB, e_ixT, e_ixL, e_ixS, e_at0, e_at1, e_at2, e_slT, e_slL, e_slS, e_tail, e_eqS, e_eqI, e_depS, e_depI, e_isiS, e_isiT, e_isiTT, e_isiTS, e_lcN, e_lcC, e_name, e_repl, e_inT, e_inL, e_inS, e_inTab, e_ixTab, e_is, e_isNot, e_eqv, e_nev, e_starts, D.bl.injEq, D.int.injEq, D.str.injEq, D.tup.injEq, exists_eq_left', exists_eq_left, true_and, and_true, and_self, if_true, if_false, ite_true, ite_false, Bool.false_eq_true, Bool.not_true, Bool.not_false, eq_self, List.set_cons_zero, List.set_cons_succ, List.getElem?_cons_zero, List.getElem?_cons_succ, List.length_cons, List.length_nil, List.replicate_zero, List.map_cons, List.map_nil, List.nil_append, List.cons_append, Nat.reduceAdd, Nat.zero_add, noOwn, wipeR, List.all_cons, List.all_nil, List.any_cons, List.any_nil, Bool.and_true, Bool.or_false, Bool.false_or, Bool.and_self, Bool.xor_false, Bool.false_xor, Bool.true_xor, decide_true, Option.some.injEq, e_itT, e_itL, e_itS, e_pl1, e_pl2, e_ty1, e_ty2, e_ok1, e_ok2, e_min, e_one, e_two, e_three, e_nnT, e_nnS, e_fl1, e_fl2, e_fl3, e_starts, e_st2, t_var_pair, t_var_box, t_var_half, t_var_shut, t_var_mark, t_var_mix, t_pair_var, t_pair_box, t_pair_half, t_pair_shut, t_pair_mark, t_pair_mix, t_box_var, t_box_pair, t_box_half, t_box_shut, t_box_mark, t_box_mix, t_half_var, t_half_pair, t_half_box, t_half_shut, t_half_mark, t_half_mix, t_shut_var, t_shut_pair, t_shut_box, t_shut_half, t_shut_mark, t_shut_mix, t_mark_var, t_mark_pair, t_mark_box, t_mark_half, t_mark_shut, t_mark_mix, t_mix_var, t_mix_pair, t_mix_box, t_mix_half, t_mix_shut, t_mix_mark, e_n2, e_n3, Int.reduceNeg, Bool.or_true, i_str_S, i_str_T, i_str_L, i_str_I, i_int_S, i_int_T, i_int_L, i_int_I, i_bool_S, i_bool_T, i_bool_L, i_bool_I, i_list_S, i_list_T, i_list_L, i_list_I, i_tuple_S, i_tuple_T, i_tuple_L, i_tuple_I, i_dict_S, i_dict_T, i_dict_L, i_dict_I, e_ty_int, e_ty_bool, e_ty_list, e_ty_dict, e_isi2, e_pl3, e_pl4, e_eqB, e_depB, e_ok3, e_r2, e_r3, e_r0, e_for, e_i1, e_p2, e_n0, e_n4, e_ln0, e_ln1, Int.reduceEq, Int.reduceLT, Int.reduceLE, decide_false, Option.isSome_some, Option.isSome_none, Bool.or_self, Bool.true_or, ↓reduceIte]
  refine sp_right g4.1 g4.2.1 g4.2.2 ?_
  simp only [e_seq, e_next, e_ret, e_retN, e_if, e_asg, e_own, e_drop, e_c, e_var0, e_varS, e_op, e_test, e_and, e_or, e_not, e_andV, e_orV, e_notV, e_ifE, e_chain, e_nil, e_cons, e_tup, e_lst, e_cb, e_call, e_sl, e_part, e_noPart, e_items, e_rng1, e_lc, e_yes, e_fn, e_rho1, e_rho2, e_rho3, e_rho4, e_isi, e_ints, e_CT, e_lenS, e_lenT, e_lenL, e_addI, e_addS, e_addL, e_int, e_intB, e_ixT, e_ixL, e_ixS, e_at0, e_at1, e_at2, e_slT, e_slL, e_slS, e_tail, e_eqS, e_eqI, e_depS, e_depI, e_isiS, e_isiT, e_isiTT, e_isiTS, e_lcN, e_lcC, e_name, e_repl, e_inT, e_inL, e_inS, e_inTab, e_ixTab, e_is, e_isNot, e_eqv, e_nev, e_starts, D.bl.injEq, D.int.injEq, D.str.injEq, D.tup.injEq, exists_eq_left', exists_eq_left, true_and, and_true, and_self, if_true, if_false, ite_true, ite_false, Bool.false_eq_true, Bool.not_true, Bool.not_false, eq_self, List.set_cons_zero, List.set_cons_succ, List.getElem?_cons_zero, List.getElem?_cons_succ, List.length_cons, List.length_nil, List.replicate_zero, List.map_cons, List.map_nil, List.nil_append, List.cons_append, Nat.reduceAdd, Nat.zero_add, noOwn, wipeR, List.all_cons, List.all_nil, List.any_cons, List.any_nil, Bool.and_true, Bool.or_false, Bool.false_or, Bool.and_self, Bool.xor_false, Bool.false_xor, Bool.true_xor, decide_true, Option.some.injEq, e_itT, e_itL, e_itS, e_pl1, e_pl2, e_ty1, e_ty2, e_ok1, e_ok2, e_min, e_one, e_two, e_three, e_nnT, e_nnS, e_fl1, e_fl2, e_fl3, e_starts, e_st2, t_var_pair, t_var_box, t_var_half, t_var_shut, t_var_mark, t_var_mix, t_pair_var, t_pair_box, t_pair_half, t_pair_shut, t_pair_mark, t_pair_mix, t_box_var, t_box_pair, t_box_half, t_box_shut, t_box_mark, t_box_mix, t_half_var, t_half_pair, t_half_box, t_half_shut, t_half_mark, t_half_mix, t_shut_var, t_shut_pair, t_shut_box, t_shut_half, t_shut_mark, t_shut_mix, t_mark_var, t_mark_pair, t_mark_box, t_mark_half, t_mark_shut, t_mark_mix, t_mix_var, t_mix_pair, t_mix_box, t_mix_half, t_mix_shut, t_mix_mark, e_n2, e_n3, Int.reduceNeg, Bool.or_true, i_str_S, i_str_T, i_str_L, i_str_I, i_int_S, i_int_T, i_int_L, i_int_I, i_bool_S, i_bool_T, i_bool_L, i_bool_I, i_list_S, i_list_T, i_list_L, i_list_I, i_tuple_S, i_tuple_T, i_tuple_L, i_tuple_I, i_dict_S, i_dict_T, i_dict_L, i_dict_I, e_ty_int, e_ty_bool, e_ty_list, e_ty_dict, e_isi2, e_pl3, e_pl4, e_eqB, e_depB, e_ok3, e_r2, e_r3, e_r0, e_for, e_i1, e_p2, e_n0, e_n4, e_ln0, e_ln1, Int.reduceEq, Int.reduceLT, Int.reduceLE, decide_false, Option.isSome_some, Option.isSome_none, Bool.or_self, Bool.true_or, ↓reduceIte]
  refine sp_right g5.1 g5.2.1 g5.2.2 ?_
  simp only [e_seq, e_next, e_ret, e_retN, e_if, e_asg, e_own, e_drop, e_c, e_var0, e_varS, e_op, e_test, e_and, e_or, e_not, e_andV, e_orV, e_notV, e_ifE, e_chain, e_nil, e_cons, e_tup, e_lst, e_cb, e_call, e_sl, e_part, e_noPart, e_items, e_rng1, e_lc, e_yes, e_fn, e_rho1, e_rho2, e_rho3, e_rho4, e_isi, e_ints, e_CT, e_lenS, e_lenT, e_lenL, e_addI, e_addS, e_addL, e_int, e_intB, e_ixT, e_ixL, e_ixS, e_at0, e_at1, e_at2, e_slT, e_slL, e_slS, e_tail, e_eqS, e_eqI, e_depS, e_depI, e_isiS, e_isiT, e_isiTT, e_isiTS, e_lcN, e_lcC, e_name, e_repl, e_inT, e_inL, e_inS, e_inTab, e_ixTab, e_is, e_isNot, e_eqv, e_nev, e_starts, D.bl.injEq, D.int.injEq, D.str.injEq, D.tup.injEq, exists_eq_left', exists_eq_left, true_and, and_true, and_self, if_true, if_false, ite_true, ite_false, Bool.false_eq_true, Bool.not_true, Bool.not_false, eq_self, List.set_cons_zero, List.set_cons_succ, List.getElem?_cons_zero, List.getElem?_cons_succ, List.length_cons, List.length_nil, List.replicate_zero, List.map_cons, List.map_nil, List.nil_append, List.cons_append, Nat.reduceAdd, Nat.zero_add, noOwn, wipeR, List.all_cons, List.all_nil, List.any_cons, List.any_nil, Bool.and_true, Bool.or_false, Bool.false_or, Bool.and_self, Bool.xor_false, Bool.false_xor, Bool.true_xor, decide_true, Option.some.injEq, e_itT, e_itL, e_itS, e_pl1, e_pl2, e_ty1, e_ty2, e_ok1, e_ok2, e_min, e_one, e_two, e_three, e_nnT, e_nnS, e_fl1, e_fl2, e_fl3, e_starts, e_st2, t_var_pair, t_var_box, t_var_half, t_var_shut, t_var_mark, t_var_mix, t_pair_var, t_pair_box, t_pair_half, t_pair_shut, t_pair_mark, t_pair_mix, t_box_var, t_box_pair, t_box_half, t_box_shut, t_box_mark, t_box_mix, t_half_var, t_half_pair, t_half_box, t_half_shut, t_half_mark, t_half_mix, t_shut_var, t_shut_pair, t_shut_box, t_shut_half, t_shut_mark, t_shut_mix, t_mark_var, t_mark_pair, t_mark_box, t_mark_half, t_mark_shut, t_mark_mix, t_mix_var, t_mix_pair, t_mix_box, t_mix_half, t_mix_shut, t_mix_mark, e_n2, e_n3, Int.reduceNeg, Bool.or_true, i_str_S, i_str_T, i_str_L, i_str_I, i_int_S, i_int_T, i_int_L, i_int_I, i_bool_S, i_bool_T, i_bool_L, i_bool_I, i_list_S, i_list_T, i_list_L, i_list_I, i_tuple_S, i_tuple_T, i_tuple_L, i_tuple_I, i_dict_S, i_dict_T, i_dict_L, i_dict_I, e_ty_int, e_ty_bool, e_ty_list, e_ty_dict, e_isi2, e_pl3, e_pl4, e_eqB, e_depB, e_ok3, e_r2, e_r3, e_r0, e_for, e_i1, e_p2, e_n0, e_n4, e_ln0, e_ln1, Int.reduceEq, Int.reduceLT, Int.reduceLE, decide_false, Option.isSome_some, Option.isSome_none, Bool.or_self, Bool.true_or, ↓reduceIte]
  refine sp_right g6.1 g6.2.1 g6.2.2 ?_
  simp only [e_seq, e_next, e_ret, e_retN, e_if, e_asg, e_own, e_drop, e_c, e_var0, e_varS, e_op, e_test, e_and, e_or, e_not, e_andV, e_orV, e_notV, e_ifE, e_chain, e_nil, e_cons, e_tup, e_lst, e_cb, e_call, e_sl, e_part, e_noPart, e_items, e_rng1, e_lc, e_yes, e_fn, e_rho1, e_rho2, e_rho3, e_rho4, e_isi, e_ints, e_CT, e_lenS, e_lenT, e_lenL, e_addI, e_addS, e_addL, e_int, e_intB, e_ixT, e_ixL, e_ixS, e_at0, e_at1, e_at2, e_slT, e_slL, e_slS, e_tail, e_eqS, e_eqI, e_depS, e_depI, e_isiS, e_isiT, e_isiTT, e_isiTS, e_lcN, e_lcC, e_name, e_repl, e_inT, e_inL, e_inS, e_inTab, e_ixTab, e_is, e_isNot, e_eqv, e_nev, e_starts, D.bl.injEq, D.int.injEq, D.str.injEq, D.tup.injEq, exists_eq_left', exists_eq_left, true_and, and_true, and_self, if_true, if_false, ite_true, ite_false, Bool.false_eq_true, Bool.not_true, Bool.not_false, eq_self, List.set_cons_zero, List.set_cons_succ, List.getElem?_cons_zero, List.getElem?_cons_succ, List.length_cons, List.length_nil, List.replicate_zero, List.map_cons, List.map_nil, List.nil_append, List.cons_append, Nat.reduceAdd, Nat.zero_add, noOwn, wipeR, List.all_cons, List.all_nil, List.any_cons, List.any_nil, Bool.and_true, Bool.or_false, Bool.false_or, Bool.and_self, Bool.xor_false, Bool.false_xor, Bool.true_xor, decide_true, Option.some.injEq, e_itT, e_itL, e_itS, e_pl1, e_pl2, e_ty1, e_ty2, e_ok1, e_ok2, e_min, e_one, e_two, e_three, e_nnT, e_nnS, e_fl1, e_fl2, e_fl3, e_starts, e_st2, t_var_pair, t_var_box, t_var_half, t_var_shut, t_var_mark, t_var_mix, t_pair_var, t_pair_box, t_pair_half, t_pair_shut, t_pair_mark, t_pair_mix, t_box_var, t_box_pair, t_box_half, t_box_shut, t_box_mark, t_box_mix, t_half_var, t_half_pair, t_half_box, t_half_shut, t_half_mark, t_half_mix, t_shut_var, t_shut_pair, t_shut_box, t_shut_half, t_shut_mark, t_shut_mix, t_mark_var, t_mark_pair, t_mark_box, t_mark_half, t_mark_shut, t_mark_mix, t_mix_var, t_mix_pair, t_mix_box, t_mix_half, t_mix_shut, t_mix_mark, e_n2, e_n3, Int.reduceNeg, Bool.or_true, i_str_S, i_str_T, i_str_L, i_str_I, i_int_S, i_int_T, i_int_L, i_int_I, i_bool_S, i_bool_T, i_bool_L, i_bool_I, i_list_S, i_list_T, i_list_L, i_list_I, i_tuple_S, i_tuple_T, i_tuple_L, i_tuple_I, i_dict_S, i_dict_T, i_dict_L, i_dict_I, e_ty_int, e_ty_bool, e_ty_list, e_ty_dict, e_isi2, e_pl3, e_pl4, e_eqB, e_depB, e_ok3, e_r2, e_r3, e_r0, e_for, e_i1, e_p2, e_n0, e_n4, e_ln0, e_ln1, Int.reduceEq, Int.reduceLT, Int.reduceLE, decide_false, Option.isSome_some, Option.isSome_none, Bool.or_self, Bool.true_or, ↓reduceIte]
  refine sp_right g7.1 g7.2.1 g7.2.2 ?_
  simp only [e_seq, e_next, e_ret, e_retN, e_if, e_asg, e_own, e_drop, e_c, e_var0, e_varS, e_op, e_test, e_and, e_or, e_not, e_andV, e_orV, e_notV, e_ifE, e_chain, e_nil, e_cons, e_tup, e_lst, e_cb, e_call, e_sl, e_part, e_noPart, e_items, e_rng1, e_lc, e_yes, e_fn, e_rho1, e_rho2, e_rho3, e_rho4, e_isi, e_ints, e_CT, e_lenS, e_lenT, e_lenL, e_addI, e_addS, e_addL, e_int, e_intB, e_ixT, e_ixL, e_ixS, e_at0, e_at1, e_at2, e_slT, e_slL, e_slS, e_tail, e_eqS, e_eqI, e_depS, e_depI, e_isiS, e_isiT, e_isiTT, e_isiTS, e_lcN, e_lcC, e_name, e_repl, e_inT, e_inL, e_inS, e_inTab, e_ixTab, e_is, e_isNot, e_eqv, e_nev, e_starts, D.bl.injEq, D.int.injEq, D.str.injEq, D.tup.injEq, exists_eq_left', exists_eq_left, true_and, and_true, and_self, if_true, if_false, ite_true, ite_false, Bool.false_eq_true, Bool.not_true, Bool.not_false, eq_self, List.set_cons_zero, List.set_cons_succ, List.getElem?_cons_zero, List.getElem?_cons_succ, List.length_cons, List.length_nil, List.replicate_zero, List.map_cons, List.map_nil, List.nil_append, List.cons_append, Nat.reduceAdd, Nat.zero_add, noOwn, wipeR, List.all_cons, List.all_nil, List.any_cons, List.any_nil, Bool.and_true, Bool.or_false, Bool.false_or, Bool.and_self, Bool.xor_false, Bool.false_xor, Bool.true_xor, decide_true, Option.some.injEq, e_itT, e_itL, e_itS, e_pl1, e_pl2, e_ty1, e_ty2, e_ok1, e_ok2, e_min, e_one, e_two, e_three, e_nnT, e_nnS, e_fl1, e_fl2, e_fl3, e_starts, e_st2, t_var_pair, t_var_box, t_var_half, t_var_shut, t_var_mark, t_var_mix, t_pair_var, t_pair_box, t_pair_half, t_pair_shut, t_pair_mark, t_pair_mix, t_box_var, t_box_pair, t_box_half, t_box_shut, t_box_mark, t_box_mix, t_half_var, t_half_pair, t_half_box, t_half_shut, t_half_mark, t_half_mix, t_shut_var, t_shut_pair, t_shut_box, t_shut_half, t_shut_mark, t_shut_mix, t_mark_var, t_mark_pair, t_mark_box, t_mark_half, t_mark_shut, t_mark_mix, t_mix_var, t_mix_pair, t_mix_box, t_mix_half, t_mix_shut, t_mix_mark, e_n2, e_n3, Int.reduceNeg, Bool.or_true, i_str_S, i_str_T, i_str_L, i_str_I, i_int_S, i_int_T, i_int_L, i_int_I, i_bool_S, i_bool_T, i_bool_L, i_bool_I, i_list_S, i_list_T, i_list_L, i_list_I, i_tuple_S, i_tuple_T, i_tuple_L, i_tuple_I, i_dict_S, i_dict_T, i_dict_L, i_dict_I, e_ty_int, e_ty_bool, e_ty_list, e_ty_dict, e_isi2, e_pl3, e_pl4, e_eqB, e_depB, e_ok3, e_r2, e_r3, e_r0, e_for, e_i1, e_p2, e_n0, e_n4, e_ln0, e_ln1, Int.reduceEq, Int.reduceLT, Int.reduceLE, decide_false, Option.isSome_some, Option.isSome_none, Bool.or_self, Bool.true_or, ↓reduceIte]
end
end K04
namespace K04
open PySem PySem.Spec PyProof.Rows L2 HD
def D_is_name : He.DefD := ⟨("is_name", none), "is_name", "is_name", defArgs s_is_name, defBody s_is_name, defScope s_is_name, [], []⟩
def D_is_leaf : He.DefD := ⟨("is_leaf", none), "is_leaf", "is_leaf", defArgs s_is_leaf, defBody s_is_leaf, defScope s_is_leaf, [], []⟩
def D_measure : He.DefD := ⟨("measure", none), "measure", "measure", defArgs s_measure, defBody s_measure, defScope s_measure, [], []⟩
def D_has_form : He.DefD := ⟨("has_form", none), "has_form", "has_form", defArgs s_has_form, defBody s_has_form, defScope s_has_form, [], []⟩
def D_is_term : He.DefD := ⟨("is_term", none), "is_term", "is_term", defArgs s_is_term, defBody s_is_term, defScope s_is_term, [], []⟩
def D_check_term : He.DefD := ⟨("check_term", none), "check_term", "check_term", defArgs s_check_term, defBody s_check_term, defScope s_check_term, [], []⟩
def D_spelled : He.DefD := ⟨("spelled", none), "spelled", "spelled", defArgs s_spelled, defBody s_spelled, defScope s_spelled, [], []⟩
def D_worded : He.DefD := ⟨("worded", none), "worded", "worded", defArgs s_worded, defBody s_worded, defScope s_worded, [], []⟩
def D_word_end : He.DefD := ⟨("word_end", none), "word_end", "word_end", defArgs s_word_end, defBody s_word_end, defScope s_word_end, [], []⟩
def D_leaf_at : He.DefD := ⟨("leaf_at", none), "leaf_at", "leaf_at", defArgs s_leaf_at, defBody s_leaf_at, defScope s_leaf_at, [], []⟩
def D_behind : He.DefD := ⟨("behind", none), "behind", "behind", defArgs s_behind, defBody s_behind, defScope s_behind, [], []⟩
def D_round_at : He.DefD := ⟨("round_at", none), "round_at", "round_at", defArgs s_round_at, defBody s_round_at, defScope s_round_at, [], []⟩
def D_box_at : He.DefD := ⟨("box_at", none), "box_at", "box_at", defArgs s_box_at, defBody s_box_at, defScope s_box_at, [], []⟩
def D_shut_at : He.DefD := ⟨("shut_at", none), "shut_at", "shut_at", defArgs s_shut_at, defBody s_shut_at, defScope s_shut_at, [], []⟩
def D_word_at : He.DefD := ⟨("word_at", none), "word_at", "word_at", defArgs s_word_at, defBody s_word_at, defScope s_word_at, [], []⟩
def D_term_at : He.DefD := ⟨("term_at", none), "term_at", "term_at", defArgs s_term_at, defBody s_term_at, defScope s_term_at, [], []⟩
def D_read_any : He.DefD := ⟨("read_any", none), "read_any", "read_any", defArgs s_read_any, defBody s_read_any, defScope s_read_any, [], []⟩
def D_read_term : He.DefD := ⟨("read_term", none), "read_term", "read_term", defArgs s_read_term, defBody s_read_term, defScope s_read_term, [], []⟩
def D_law_bag : He.DefD := ⟨("_law_bag", none), "_law_bag", "_law_bag", defArgs s_law_bag, defBody s_law_bag, defScope s_law_bag, [], []⟩
def D_law_draw : He.DefD := ⟨("_law_draw", none), "_law_draw", "_law_draw", defArgs s_law_draw, defBody s_law_draw, defScope s_law_draw, [], []⟩
def D_law_same : He.DefD := ⟨("_law_same", none), "_law_same", "_law_same", defArgs s_law_same, defBody s_law_same, defScope s_law_same, [], []⟩
def D_law_names : He.DefD := ⟨("_law_names", none), "_law_names", "_law_names", defArgs s_law_names, defBody s_law_names, defScope s_law_names, [], []⟩
def D_law_pick : He.DefD := ⟨("_law_pick", none), "_law_pick", "_law_pick", defArgs s_law_pick, defBody s_law_pick, defScope s_law_pick, [], []⟩
def D_law_leaf : He.DefD := ⟨("_law_leaf", none), "_law_leaf", "_law_leaf", defArgs s_law_leaf, defBody s_law_leaf, defScope s_law_leaf, [], []⟩
def D_law_pattern : He.DefD := ⟨("_law_pattern", none), "_law_pattern", "_law_pattern", defArgs s_law_pattern, defBody s_law_pattern, defScope s_law_pattern, [], []⟩
def D_law_term : He.DefD := ⟨("_law_term", none), "_law_term", "_law_term", defArgs s_law_term, defBody s_law_term, defScope s_law_term, [], []⟩
def D_law_spelled : He.DefD := ⟨("_law_spelled", none), "_law_spelled", "_law_spelled", defArgs s_law_spelled, defBody s_law_spelled, defScope s_law_spelled, [], []⟩
def D_law_wide : He.DefD := ⟨("_law_wide", none), "_law_wide", "_law_wide", defArgs s_law_wide, defBody s_law_wide, defScope s_law_wide, [], []⟩
def D_law_nested : He.DefD := ⟨("_law_nested", none), "_law_nested", "_law_nested", defArgs s_law_nested, defBody s_law_nested, defScope s_law_nested, [], []⟩
def D_law_right : He.DefD := ⟨("_law_right", none), "_law_right", "_law_right", defArgs s_law_right, defBody s_law_right, defScope s_law_right, [], []⟩
def D_law : He.DefD := ⟨("law", none), "law", "law", defArgs s_law, defBody s_law, defScope s_law, [], []⟩
def fn : List He.DefD := [D_is_name, D_is_leaf, D_measure, D_has_form, D_is_term, D_check_term, D_spelled, D_worded, D_word_end, D_leaf_at, D_behind, D_round_at, D_box_at, D_shut_at, D_word_at, D_term_at, D_read_any, D_read_term, D_law_bag, D_law_draw, D_law_same, D_law_names, D_law_pick, D_law_leaf, D_law_pattern, D_law_term, D_law_spelled, D_law_wide, D_law_nested, D_law_right, D_law]
def fa : List He.Fa := [.glo "is_name", .glo "is_leaf", .glo "measure", .glo "has_form", .glo "is_term", .glo "check_term", .glo "spelled", .glo "worded", .glo "word_end", .glo "leaf_at", .glo "behind", .glo "round_at", .glo "box_at", .glo "shut_at", .glo "word_at", .glo "term_at", .glo "read_any", .glo "read_term", .glo "_law_bag", .glo "_law_draw", .glo "_law_same", .glo "_law_names", .glo "_law_pick", .glo "_law_leaf", .glo "_law_pattern", .glo "_law_term", .glo "_law_spelled", .glo "_law_wide", .glo "_law_nested", .glo "_law_right", .glo "law", .free "all", .free "bool", .free "dict", .free "int", .free "isinstance", .free "len", .free "list", .free "max", .free "range", .free "str", .free "sum", .free "tuple", .str "AND" " & ", .str "BOX" "box", .str "HALF" "half", .str "MARK" "mark", .str "MIX" "mix", .int "MOST_DEPTH" 12, .int "MOST_LETTERS" 8, .int "MOST_NAMES" 40, .str "PAIR" "pair", .str "SHUT" "shut", .str "SMALL" "abcdefghijklmnopqrstuvwxyz", .str "VAR" "var", .glo "NAMED", .glo "LENGTHS"]
def ts : List He.Tab := [(fun K => He.ga K "LENGTHS", ["pair", "box", "half", "shut", "mark", "mix"])]
def ex (K : PySem.W.Frag) : Bool := (He.tupB K "NAMED" [.str "half", .str "shut", .str "mark"] && tabB [("pair", 3), ("box", 3), ("half", 2), ("shut", 3), ("mark", 3), ("mix", 2)] (He.ga K "LENGTHS") K)
abbrev R : PySem.W.OpenRow := PySem.W.OpenLaw.row PySem.Challenge.rw_sealedtalk_k04_wordings
abbrev hk : PySem.W.Hook := xHook 4 fa fn ts ex
def ob (s : PySem.W.SharedT) : AlX := xObs 4 fa fn ts ex (HandSHeadRun.getT s)
theorem ob_eq (s : PySem.W.SharedT) : ob s = hk.obs s.abs := xObs_eq (HandSHeadRun.getT_eq s)
def nm0 : List PySem.Str := ["SMALL", "MOST_LETTERS", "is_name", "TalkError", "BadTerm", "BadText", "PAIR", "BOX", "HALF", "SHUT", "MARK", "MIX"]
def nm1 : List PySem.Str := ["VAR", "LENGTHS", "NAMED", "MOST_NAMES", "MOST_DEPTH", "is_leaf", "measure", "has_form", "is_term", "check_term", "AND", "spelled"]
def nm2 : List PySem.Str := ["worded", "word_end", "leaf_at", "behind", "round_at", "box_at", "shut_at", "word_at", "term_at", "read_any", "read_term", "_law_bag"]
def nm3 : List PySem.Str := ["_law_draw", "_law_same", "_law_names", "_law_pick", "_law_leaf", "_law_pattern", "_law_term", "_law_spelled", "_law_wide", "_law_nested", "_law_right"]
def names : List PySem.Str := nm0 ++ nm1 ++ nm2 ++ nm3
theorem runF (w : World) : HandSHeadRun.RunEq R (PySem.W.view R.prog [52]) hk ob 4000 names (w.withFollow "special-get-raises" false) := by
  intro os
  kernel_rfl
theorem runT (w : World) : HandSHeadRun.RunEq R (PySem.W.view R.prog [52]) hk ob 4000 names (w.withFollow "special-get-raises" true) := by
  intro os
  kernel_rfl
theorem run (w : World) : HandSHeadRun.RunEq R (PySem.W.view R.prog [52]) hk ob 4000 names w := PySem.W.byRow2 "special-get-raises" (P := fun w => HandSHeadRun.RunEq R (PySem.W.view R.prog [52]) hk ob 4000 names w) runF runT w
theorem top_of {w : World} {K : PySem.W.Frag} {h : Heap} {mg : Str → Option Value} (X : K.In h) (G : h.Ns mainGlobals mg) (c : He.SaysT fa fn ts w K) (e : ex K = true) : Top w K mg := by
  obtain ⟨e0, e1⟩ := He.ba e
  exact {
    d_is_name := c.d.def_ 0 (d := D_is_name) rfl
    g_is_name := He.glo_ok X G (c.d.fact 0 (f := .glo "is_name") rfl)
    d_is_leaf := c.d.def_ 1 (d := D_is_leaf) rfl
    g_is_leaf := He.glo_ok X G (c.d.fact 1 (f := .glo "is_leaf") rfl)
    d_measure := c.d.def_ 2 (d := D_measure) rfl
    g_measure := He.glo_ok X G (c.d.fact 2 (f := .glo "measure") rfl)
    d_has_form := c.d.def_ 3 (d := D_has_form) rfl
    g_has_form := He.glo_ok X G (c.d.fact 3 (f := .glo "has_form") rfl)
    d_is_term := c.d.def_ 4 (d := D_is_term) rfl
    g_is_term := He.glo_ok X G (c.d.fact 4 (f := .glo "is_term") rfl)
    d_check_term := c.d.def_ 5 (d := D_check_term) rfl
    g_check_term := He.glo_ok X G (c.d.fact 5 (f := .glo "check_term") rfl)
    d_spelled := c.d.def_ 6 (d := D_spelled) rfl
    g_spelled := He.glo_ok X G (c.d.fact 6 (f := .glo "spelled") rfl)
    d_worded := c.d.def_ 7 (d := D_worded) rfl
    g_worded := He.glo_ok X G (c.d.fact 7 (f := .glo "worded") rfl)
    d_word_end := c.d.def_ 8 (d := D_word_end) rfl
    g_word_end := He.glo_ok X G (c.d.fact 8 (f := .glo "word_end") rfl)
    d_leaf_at := c.d.def_ 9 (d := D_leaf_at) rfl
    g_leaf_at := He.glo_ok X G (c.d.fact 9 (f := .glo "leaf_at") rfl)
    d_behind := c.d.def_ 10 (d := D_behind) rfl
    g_behind := He.glo_ok X G (c.d.fact 10 (f := .glo "behind") rfl)
    d_round_at := c.d.def_ 11 (d := D_round_at) rfl
    g_round_at := He.glo_ok X G (c.d.fact 11 (f := .glo "round_at") rfl)
    d_box_at := c.d.def_ 12 (d := D_box_at) rfl
    g_box_at := He.glo_ok X G (c.d.fact 12 (f := .glo "box_at") rfl)
    d_shut_at := c.d.def_ 13 (d := D_shut_at) rfl
    g_shut_at := He.glo_ok X G (c.d.fact 13 (f := .glo "shut_at") rfl)
    d_word_at := c.d.def_ 14 (d := D_word_at) rfl
    g_word_at := He.glo_ok X G (c.d.fact 14 (f := .glo "word_at") rfl)
    d_term_at := c.d.def_ 15 (d := D_term_at) rfl
    g_term_at := He.glo_ok X G (c.d.fact 15 (f := .glo "term_at") rfl)
    d_read_any := c.d.def_ 16 (d := D_read_any) rfl
    g_read_any := He.glo_ok X G (c.d.fact 16 (f := .glo "read_any") rfl)
    d_read_term := c.d.def_ 17 (d := D_read_term) rfl
    g_read_term := He.glo_ok X G (c.d.fact 17 (f := .glo "read_term") rfl)
    d_law_bag := c.d.def_ 18 (d := D_law_bag) rfl
    g_law_bag := He.glo_ok X G (c.d.fact 18 (f := .glo "_law_bag") rfl)
    d_law_draw := c.d.def_ 19 (d := D_law_draw) rfl
    g_law_draw := He.glo_ok X G (c.d.fact 19 (f := .glo "_law_draw") rfl)
    d_law_same := c.d.def_ 20 (d := D_law_same) rfl
    g_law_same := He.glo_ok X G (c.d.fact 20 (f := .glo "_law_same") rfl)
    d_law_names := c.d.def_ 21 (d := D_law_names) rfl
    g_law_names := He.glo_ok X G (c.d.fact 21 (f := .glo "_law_names") rfl)
    d_law_pick := c.d.def_ 22 (d := D_law_pick) rfl
    g_law_pick := He.glo_ok X G (c.d.fact 22 (f := .glo "_law_pick") rfl)
    d_law_leaf := c.d.def_ 23 (d := D_law_leaf) rfl
    g_law_leaf := He.glo_ok X G (c.d.fact 23 (f := .glo "_law_leaf") rfl)
    d_law_pattern := c.d.def_ 24 (d := D_law_pattern) rfl
    g_law_pattern := He.glo_ok X G (c.d.fact 24 (f := .glo "_law_pattern") rfl)
    d_law_term := c.d.def_ 25 (d := D_law_term) rfl
    g_law_term := He.glo_ok X G (c.d.fact 25 (f := .glo "_law_term") rfl)
    d_law_spelled := c.d.def_ 26 (d := D_law_spelled) rfl
    g_law_spelled := He.glo_ok X G (c.d.fact 26 (f := .glo "_law_spelled") rfl)
    d_law_wide := c.d.def_ 27 (d := D_law_wide) rfl
    g_law_wide := He.glo_ok X G (c.d.fact 27 (f := .glo "_law_wide") rfl)
    d_law_nested := c.d.def_ 28 (d := D_law_nested) rfl
    g_law_nested := He.glo_ok X G (c.d.fact 28 (f := .glo "_law_nested") rfl)
    d_law_right := c.d.def_ 29 (d := D_law_right) rfl
    g_law_right := He.glo_ok X G (c.d.fact 29 (f := .glo "_law_right") rfl)
    d_law := c.d.def_ 30 (d := D_law) rfl
    g_law := He.glo_ok X G (c.d.fact 30 (f := .glo "law") rfl)
    n_all := He.free_ok X G (c.d.fact 31 (f := .free "all") rfl)
    n_bool := He.free_ok X G (c.d.fact 32 (f := .free "bool") rfl)
    n_dict := He.free_ok X G (c.d.fact 33 (f := .free "dict") rfl)
    n_int := He.free_ok X G (c.d.fact 34 (f := .free "int") rfl)
    n_isinstance := He.free_ok X G (c.d.fact 35 (f := .free "isinstance") rfl)
    n_len := He.free_ok X G (c.d.fact 36 (f := .free "len") rfl)
    n_list := He.free_ok X G (c.d.fact 37 (f := .free "list") rfl)
    n_max := He.free_ok X G (c.d.fact 38 (f := .free "max") rfl)
    n_range := He.free_ok X G (c.d.fact 39 (f := .free "range") rfl)
    n_str := He.free_ok X G (c.d.fact 40 (f := .free "str") rfl)
    n_sum := He.free_ok X G (c.d.fact 41 (f := .free "sum") rfl)
    n_tuple := He.free_ok X G (c.d.fact 42 (f := .free "tuple") rfl)
    c_AND := He.str_ok X G (c.d.fact 43 (f := .str "AND" " & ") rfl)
    c_BOX := He.str_ok X G (c.d.fact 44 (f := .str "BOX" "box") rfl)
    c_HALF := He.str_ok X G (c.d.fact 45 (f := .str "HALF" "half") rfl)
    c_MARK := He.str_ok X G (c.d.fact 46 (f := .str "MARK" "mark") rfl)
    c_MIX := He.str_ok X G (c.d.fact 47 (f := .str "MIX" "mix") rfl)
    c_MOST_DEPTH := He.int_ok X G (c.d.fact 48 (f := .int "MOST_DEPTH" 12) rfl)
    c_MOST_LETTERS := He.int_ok X G (c.d.fact 49 (f := .int "MOST_LETTERS" 8) rfl)
    c_MOST_NAMES := He.int_ok X G (c.d.fact 50 (f := .int "MOST_NAMES" 40) rfl)
    c_PAIR := He.str_ok X G (c.d.fact 51 (f := .str "PAIR" "pair") rfl)
    c_SHUT := He.str_ok X G (c.d.fact 52 (f := .str "SHUT" "shut") rfl)
    c_SMALL := He.str_ok X G (c.d.fact 53 (f := .str "SMALL" "abcdefghijklmnopqrstuvwxyz") rfl)
    c_VAR := He.str_ok X G (c.d.fact 54 (f := .str "VAR" "var") rfl)
    g_NAMED := He.glo_ok X G (c.d.fact 55 (f := .glo "NAMED") rfl)
    u_NAMED := fun H => He.tupB_ok (vs := [.str "half", .str "shut", .str "mark"]) e0 H
    g_LENGTHS := He.glo_ok X G (c.d.fact 56 (f := .glo "LENGTHS") rfl)
    b_LENGTHS := fun {Y} hK hw => by
        subst hK hw
        exact tabB_at (c.tab 0 rfl) e1
  }
end K04
set_option maxHeartbeats 0

open PySem PySem.W PySem.Calls PyProof.Rows
theorem PySem.Challenge.cw_sealedtalk_k04_wordings_holds : PySem.Challenge.rw_sealedtalk_k04_wordings.Holds := by
  w_on; o_law
  refine HandSHeadRun.head_any (r := OpenLaw.row PySem.Challenge.rw_sealedtalk_k04_wordings) (q := view (OpenLaw.row PySem.Challenge.rw_sealedtalk_k04_wordings).prog [52]) (H := K04.hk) (ob := K04.ob) (M := 4000) (loose := K04.names) (d := HandSHeadRun.topDef (OpenLaw.row PySem.Challenge.rw_sealedtalk_k04_wordings).prog 52) (kwd := []) K04.ob_eq
    (by kernel_rfl) (fun s => by kernel_rfl) K04.run (by kernel_rfl) (by kernel_rfl) (by kernel_rfl) (by rfl) (by first | assumption | decide +kernel) (by decide +kernel) ⟨rfl, rfl, rfl, rfl, rfl, by decide +kernel⟩ ?hw ?hc
  case hw => w_witness2
  case hc =>
    refine L2.walk_ofE (l := PySem.Challenge.rw_sealedtalk_k04_wordings) (n := 63) (k := 32 + 1) (x := "_law_script") (CX := L2.CX0) rfl (by decide) (by kernel_rfl) ⟨rfl, by decide, by decide⟩ ?F (fun _ _ _ _ z => z)
    intro w mg fa h Y G hmg0
    obtain ⟨K, KX, c, e⟩ := Y
    have T := K04.top_of KX G c e
    have e0 : (HandSHeadRun.topDef (OpenLaw.row PySem.Challenge.rw_sealedtalk_k04_wordings).prog 52).name = ("law" : PySem.Str) := by kernel_rfl
    rw [e0, T.g_law] at hmg0
    cases hmg0
    obtain ⟨fd, F⟩ := T.d_law
    exact ⟨K, fd, K04.spLaw K, KX, (K04.ok_law (P := (PySem.Challenge.rw_sealedtalk_k04_wordings).prog) (base := h) T K04.law_ok F).2, fun H a ns hl _ hS => ⟨a, ns, rfl, hS, fun _ => rfl⟩, fun base _ _ => (K04.ok_law (P := (PySem.Challenge.rw_sealedtalk_k04_wordings).prog) (base := base) T K04.law_ok F).1⟩
