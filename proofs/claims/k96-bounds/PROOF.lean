import PyProof.Rows.All
import Wide.All
import OpenK.AllK
import Wide.FinOn
import HandS.ForMost
import HandS.Codes
import HandS.Star
import HandS.IsInst
import HandS.Conv
import HandS.Deep
import HandS.TupAny
import HandS.TupLen
import HandS.Zip
import HandS.DictTup
import HandS.DictComp
import HandS.SortInts
import HandS.SetFor
import HandS.Walk
import HandS.Wide
import HandS.EndBits
import KE.KDictPairs
import KE.KDictWalk
import KE.KDictCopyH
import KE.KDictDisplayH
import HandS.Strs
import KE.GoesMore
import PySem.Challenge.RW_shapeholes_k96_whole_bounds_of_holes
set_option Elab.async false
set_option maxRecDepth 100000
set_option maxHeartbeats 4000000
/-! Plain mathematics: spans by a prime, and the bound of a triangular part by the length of a spanning list. -/
namespace K96
section span
variable {I : Type}

/-- v is, by p, a sum of multiples of the vectors of E -/
inductive Spn (p : Int) (E : List (I → Int)) : (I → Int) → Prop
  | zero {v : I → Int} : (∀ j, p ∣ v j) → Spn p E v
  | add {u v e : I → Int} (c : Int) : Spn p E u → e ∈ E → (∀ j, p ∣ v j - u j - c * e j) → Spn p E v

theorem dvd_lin {p a b x y : Int} (hx : p ∣ x) (hy : p ∣ y) : p ∣ a * x + b * y :=
  Int.dvd_add (Int.dvd_mul_of_dvd_right hx) (Int.dvd_mul_of_dvd_right hy)

theorem Spn.congr {p : Int} {E : List (I → Int)} {u v : I → Int} (h : Spn p E u) (e : ∀ j, p ∣ v j - u j) : Spn p E v := by
  cases h with
  | zero h =>
    refine .zero fun j => ?_
    obtain ⟨k, hk⟩ := h j
    obtain ⟨l, hl⟩ := e j
    exact ⟨k + l, by grind⟩
  | add c hu he hj =>
    refine .add c hu he fun j => ?_
    obtain ⟨k, hk⟩ := hj j
    obtain ⟨l, hl⟩ := e j
    exact ⟨k + l, by grind⟩

theorem Spn.mem {p : Int} {E : List (I → Int)} {e : I → Int} (h : e ∈ E) : Spn p E e :=
  .add (u := fun _ => 0) 1 (.zero fun _ => ⟨0, by grind⟩) h fun _ => ⟨0, by grind⟩

theorem Spn.plus {p : Int} {E : List (I → Int)} {u v w : I → Int} (hu : Spn p E u) (hv : Spn p E v) (h : ∀ j, p ∣ w j - u j - v j) : Spn p E w := by
  induction hv generalizing w with
  | zero hz =>
    refine hu.congr fun j => ?_
    obtain ⟨k, hk⟩ := hz j
    obtain ⟨l, hl⟩ := h j
    exact ⟨k + l, by grind⟩
  | @add u' v' e c _ he hj ih =>
    refine .add (u := fun j => u j + u' j) c (ih fun j => ⟨0, by grind⟩) he fun j => ?_
    obtain ⟨k, hk⟩ := hj j
    obtain ⟨l, hl⟩ := h j
    exact ⟨k + l, by grind⟩

theorem Spn.smul {p : Int} {E : List (I → Int)} {u w : I → Int} (a : Int) (hu : Spn p E u) (h : ∀ j, p ∣ w j - a * u j) : Spn p E w := by
  induction hu generalizing w with
  | zero hz =>
    refine .zero fun j => ?_
    obtain ⟨k, hk⟩ := hz j
    obtain ⟨l, hl⟩ := h j
    exact ⟨a * k + l, by grind⟩
  | @add u' v' e c _ he hj ih =>
    refine .add (u := fun j => a * u' j) (a * c) (ih fun j => ⟨0, by grind⟩) he fun j => ?_
    obtain ⟨k, hk⟩ := hj j
    obtain ⟨l, hl⟩ := h j
    exact ⟨a * k + l, by grind⟩

theorem Spn.lin {p : Int} {E : List (I → Int)} {u v w : I → Int} (a b : Int) (hu : Spn p E u) (hv : Spn p E v) (h : ∀ j, p ∣ w j - a * u j - b * v j) : Spn p E w :=
  (hu.smul (w := fun j => a * u j) a fun _ => ⟨0, by grind⟩).plus (hv.smul (w := fun j => b * v j) b fun _ => ⟨0, by grind⟩) h

theorem Spn.trans {p : Int} {E F : List (I → Int)} {v : I → Int} (hv : Spn p E v) (h : ∀ e ∈ E, Spn p F e) : Spn p F v := by
  induction hv with
  | zero hz => exact .zero hz
  | @add u' v' e c _ he hj ih =>
    refine Spn.lin 1 c ih (h e he) fun j => ?_
    obtain ⟨k, hk⟩ := hj j
    exact ⟨k, by grind⟩

theorem Spn.vanish {p : Int} {E : List (I → Int)} {v : I → Int} {c : I} (hv : Spn p E v) (h : ∀ e ∈ E, p ∣ e c) : p ∣ v c := by
  induction hv with
  | zero hz => exact hz c
  | @add u' v' e a _ he hj ih =>
    obtain ⟨k, hk⟩ := hj c
    obtain ⟨l, hl⟩ := h e he
    obtain ⟨m, hm⟩ := ih
    exact ⟨k + m + a * l, by grind⟩

/-- seen through a map of the places -/
theorem Spn.comp {J : Type} {p : Int} {E : List (I → Int)} {v : I → Int} (g : J → I) (hv : Spn p E v) : Spn p (E.map fun e j => e (g j)) (fun j => v (g j)) := by
  induction hv with
  | zero hz => exact .zero fun j => hz (g j)
  | add c _ he hj ih => exact .add c ih (List.mem_map.mpr ⟨_, he, rfl⟩) fun j => hj (g j)

/-- one of the four primes -/
def Pr (p : Int) : Prop := p = 2 ∨ p = 3 ∨ p = 5 ∨ p = 7

theorem Pr.pos {p : Int} (h : Pr p) : 2 ≤ p := by rcases h with h | h | h | h <;> omega
theorem Pr.inv {p : Int} (h : Pr p) {x : Int} (hx : ¬ p ∣ x) : ∃ y, p ∣ x * y - 1 := by
  have lift : ∀ y : Int, p ∣ (x % p) * y - 1 → p ∣ x * y - 1 := fun y ⟨k, hk⟩ => by
    have e : p * (x / p) + x % p = x := Int.mul_ediv_add_emod x p
    exact ⟨k + (x / p) * y, by grind⟩
  rcases h with rfl | rfl | rfl | rfl
  · have : x % 2 = 1 := by omega
    exact ⟨1, by omega⟩
  · have : x % 3 = 1 ∨ x % 3 = 2 := by omega
    rcases this with e | e
    · exact ⟨1, by omega⟩
    · exact ⟨2, by omega⟩
  · have : x % 5 = 1 ∨ x % 5 = 2 ∨ x % 5 = 3 ∨ x % 5 = 4 := by omega
    rcases this with e | e | e | e
    · exact ⟨1, by omega⟩
    · exact ⟨3, by omega⟩
    · exact ⟨2, by omega⟩
    · exact ⟨4, by omega⟩
  · have : x % 7 = 1 ∨ x % 7 = 2 ∨ x % 7 = 3 ∨ x % 7 = 4 ∨ x % 7 = 5 ∨ x % 7 = 6 := by omega
    rcases this with e | e | e | e | e | e
    · exact ⟨1, by omega⟩
    · exact ⟨4, by omega⟩
    · exact ⟨5, by omega⟩
    · exact ⟨2, by omega⟩
    · exact ⟨3, by omega⟩
    · exact ⟨6, by omega⟩
theorem Pr.of_mul {p : Int} (h : Pr p) {x y : Int} (hxy : p ∣ x * y) (hx : ¬ p ∣ x) : p ∣ y := by
  obtain ⟨z, k, hk⟩ := h.inv hx
  obtain ⟨l, hl⟩ := hxy
  exact ⟨l * z - y * k, by grind⟩
theorem Pr.not_one {p : Int} (h : Pr p) : ¬ p ∣ 1 := by
  rcases h with rfl | rfl | rfl | rfl <;> omega

/-- THE BOUND: vectors of a span, each with a place of its own where it is not zero and the later ones are, are no more than the vectors that span -/
theorem span_bound {p : Int} (hp : Pr p) : ∀ (T : List ((I → Int) × I)) (E : List (I → Int)), (∀ t ∈ T, Spn p E t.1) → (∀ t ∈ T, ¬ p ∣ t.1 t.2) →
    T.Pairwise (fun a b => p ∣ b.1 a.2) → T.length ≤ E.length
  | [], _, _, _, _ => Nat.zero_le _
  | (v, c) :: T, E, hs, hn, ht => by
    have hv := hs (v, c) List.mem_cons_self
    have hc := hn (v, c) List.mem_cons_self
    obtain ⟨h1, h2⟩ := List.pairwise_cons.mp ht
    obtain ⟨e, he, hec⟩ : ∃ e ∈ E, ¬ p ∣ e c := by
      refine Classical.byContradiction fun h => hc (hv.vanish fun e he => ?_)
      exact Classical.byContradiction fun q => h ⟨e, he, q⟩
    obtain ⟨E1, E2, rfl⟩ := List.append_of_mem he
    obtain ⟨y, hy⟩ := hp.inv hec
    let f : (I → Int) → (I → Int) := fun w j => w j - (w c * y) * e j
    have hf : ∀ w, p ∣ f w c := fun w => by
      obtain ⟨k, hk⟩ := hy
      exact ⟨-(w c * k), by show w c - (w c * y) * e c = p * -(w c * k); grind⟩
    have hE' : ∀ e' ∈ (E1 ++ E2).map f, p ∣ e' c := fun e' h => by
      obtain ⟨w, _, rfl⟩ := List.mem_map.mp h
      exact hf w
    have dec : ∀ u, Spn p (E1 ++ e :: E2) u → ∃ a : Int, ∃ u', Spn p ((E1 ++ E2).map f) u' ∧ ∀ j, p ∣ u j - u' j - a * e j := by
      intro u hu
      induction hu with
      | zero hz => exact ⟨0, fun _ => 0, .zero fun _ => ⟨0, by grind⟩, fun j => by obtain ⟨k, hk⟩ := hz j; exact ⟨k, by grind⟩⟩
      | @add u v e' b _ he' hj ih =>
        obtain ⟨a, u', s', q⟩ := ih
        by_cases hee : e' = e
        · subst hee
          refine ⟨a + b, u', s', fun j => ?_⟩
          obtain ⟨k, hk⟩ := hj j
          obtain ⟨l, hl⟩ := q j
          exact ⟨k + l, by grind⟩
        · have hm : e' ∈ E1 ++ E2 := by
            rcases List.mem_append.mp he' with h | h
            · exact List.mem_append_left _ h
            · rcases List.mem_cons.mp h with h | h
              · exact absurd h hee
              · exact List.mem_append_right _ h
          refine ⟨a + b * (e' c * y), fun j => u' j + b * f e' j, .add b s' (List.mem_map.mpr ⟨e', hm, rfl⟩) (fun j => ⟨0, by grind⟩), fun j => ?_⟩
          obtain ⟨k, hk⟩ := hj j
          obtain ⟨l, hl⟩ := q j
          exact ⟨k + l, by show v j - (u' j + b * (e' j - (e' c * y) * e j)) - (a + b * (e' c * y)) * e j = p * (k + l); grind⟩
    have step : T.length ≤ ((E1 ++ E2).map f).length := by
      refine span_bound hp T _ (fun t ht => ?_) (fun t ht => hn t (List.mem_cons_of_mem _ ht)) h2
      obtain ⟨a, u', s', q⟩ := dec t.1 (hs t (List.mem_cons_of_mem _ ht))
      have z : p ∣ t.1 c := h1 t ht
      have z' : p ∣ u' c := s'.vanish hE'
      have za : p ∣ a := by
        have zz : p ∣ e c * a := by
          obtain ⟨k, hk⟩ := z
          obtain ⟨l, hl⟩ := z'
          obtain ⟨m, hm⟩ := q c
          exact ⟨k - l - m, by grind⟩
        exact hp.of_mul zz hec
      refine s'.congr fun j => ?_
      obtain ⟨k, hk⟩ := za
      obtain ⟨m, hm⟩ := q j
      exact ⟨m + k * e j, by grind⟩
    rw [List.length_map] at step
    simp only [List.length_append, List.length_cons] at step ⊢
    omega

/-- r is the rank of the vectors R by p -/
def IsRank (p : Int) (R : List (I → Int)) (r : Nat) : Prop := ∃ T : List ((I → Int) × I), T.length = r ∧ (∀ t ∈ T, Spn p R t.1) ∧ (∀ t ∈ T, ¬ p ∣ t.1 t.2) ∧ T.Pairwise (fun a b => p ∣ b.1 a.2) ∧ ∀ v ∈ R, Spn p (T.map (·.1)) v

theorem IsRank.bound {p : Int} (hp : Pr p) {R : List (I → Int)} {r : Nat} (h : IsRank p R r) (T : List ((I → Int) × I)) (h1 : ∀ t ∈ T, Spn p R t.1) (h2 : ∀ t ∈ T, ¬ p ∣ t.1 t.2)
    (h3 : T.Pairwise (fun a b => p ∣ b.1 a.2)) : T.length ≤ r := by
  obtain ⟨T', e, _, _, _, q⟩ := h
  have := span_bound hp T (T'.map (·.1)) (fun t ht => (h1 t ht).trans q) h2 h3
  rwa [List.length_map, e] at this
theorem IsRank.le {p : Int} (hp : Pr p) {R : List (I → Int)} {r : Nat} (h : IsRank p R r) : r ≤ R.length := by
  obtain ⟨T, e, h1, h2, h3, _⟩ := h
  rw [← e]
  exact span_bound hp T R h1 h2 h3
theorem IsRank.uniq {p : Int} (hp : Pr p) {R R' : List (I → Int)} {r r' : Nat} (h : IsRank p R r) (h' : IsRank p R' r') (e : ∀ v, v ∈ R ↔ v ∈ R') : r = r' := by
  obtain ⟨T, e1, h1, h2, h3, h4⟩ := id h
  obtain ⟨T', e1', h1', h2', h3', h4'⟩ := id h'
  have a := h'.bound hp T (fun t ht => (h1 t ht).trans fun v hv => Spn.mem ((e v).mp hv)) h2 h3
  have b := h.bound hp T' (fun t ht => (h1' t ht).trans fun v hv => Spn.mem ((e v).mpr hv)) h2' h3'
  omega
/-- seen through a map of the places -/
theorem IsRank.comp {J : Type} {p : Int} {R : List (I → Int)} {T : List ((I → Int) × I)} (g : J → I) (s : I → J) (h1 : ∀ t ∈ T, Spn p R t.1) (h2 : ∀ t ∈ T, ¬ p ∣ t.1 t.2) (h3 : T.Pairwise (fun a b => p ∣ b.1 a.2))
    (h4 : ∀ v ∈ R, Spn p (T.map (·.1)) v) (hg : ∀ t ∈ T, g (s t.2) = t.2) : IsRank p (R.map fun v j => v (g j)) T.length := by
  refine ⟨T.map fun t => (fun j => t.1 (g j), s t.2), by simp, fun t ht => ?_, fun t ht => ?_, ?_, fun v hv => ?_⟩
  · obtain ⟨t', ht', rfl⟩ := List.mem_map.mp ht
    exact (h1 t' ht').comp g
  · obtain ⟨t', ht', rfl⟩ := List.mem_map.mp ht
    show ¬ p ∣ t'.1 (g (s t'.2))
    rw [hg t' ht']
    exact h2 t' ht'
  · refine List.pairwise_map.mpr (h3.imp_of_mem fun {a b} ha _ q => ?_)
    show p ∣ b.1 (g (s a.2))
    rw [hg a ha]
    exact q
  · obtain ⟨v', hv', rfl⟩ := List.mem_map.mp hv
    have q := (h4 v' hv').comp g
    rw [List.map_map] at q ⊢
    exact q
end span
end K96

/-! Rules of the walk that the hand layer lacks: lists by place, dicts whose keys are tuples. -/
namespace K96
open PySem PySem.Spec PyProof.Rows L2

/-! ### tuples of ints as keys -/
def ky (x : List Int) : List Key := x.map Sum.inl
theorem ky_V (x : List Int) : (ky x).map kV = x.map V.int := by
  unfold ky
  rw [List.map_map]
  rfl
theorem ky_inj {x y : List Int} (e : ky x = ky y) : x = y := by
  have e2 : (ky x).map kV = (ky y).map kV := by rw [e]
  rw [ky_V, ky_V] at e2
  exact (List.map_inj_right (f := V.int) (fun a b z => V.int.inj z)).mp e2

section
variable {X : Cx} {pins : List (Addr × Obj)} {σ : L2.St} {H : Hp} {s : Shared}

/-! ### a list's item, for an augmented store -/
def rGetL (K : PySem.W.Frag) : V → V → Hp → VK → Prop := fun o i H Q => ∃ (p : Addr) (xs : List V) (j : Nat) (v : V), o = .ref p ∧ i = .int (j : Int) ∧ SqL K H p xs ∧ xs[j]? = some v ∧ Q v H
theorem get_list : PGet X (rGetL X.K) := by
  rintro pins s σ H o i ov iv Q I ro ri ⟨p, xs, j, v, rfl, rfl, hs, hv, q⟩
  cases ro
  obtain ⟨t, rfl⟩ := ri
  obtain ⟨its, rv, pl, hz⟩ := I.list hs
  obtain ⟨u, hu, ru⟩ := rv.get hv
  have hj : j < xs.length := (List.getElem?_eq_some_iff.mp hv).1
  have hb : sizeLine < 2 ^ 63 := by rw [sizeLine_eq]; omega
  refine wpAny_getItem_list pl.isList (Int.natCast_nonneg j) (by omega) ?_ ⟨v, H, I, ru, q⟩
  rw [Int.toNat_natCast]
  simpa using hu

/-! ### dicts with tuple keys: what stands anew -/
theorem dt_new {P : Program} {w : World} {H' : Hp} {h' : Heap} {a : Addr} {kvs : List (List Key × V)} {xs : List (List Key × Addr × Value)} (z : kvs.length ≤ sizeLine) (hd : (a == sysModules) = false) (rel : KT H' kvs xs)
    (dd : h'.DictOfH (tupleKind (mixKind P w)) a xs) : ObjOk P w H' h' a (.dT kvs) := by
  obtain ⟨o, es, ep, h1, h2, h3, h4, _, h5⟩ := dd
  exact ⟨z, hd, xs, rel, o, es, ep, h1, h2, h3, h4, h5⟩
theorem tups_upd {a : Addr} {u ob : HO} (ha : H a = some u) (hu : ∀ xs, u ≠ .tup xs) : ∀ b ys, H b = some (.tup ys) → upd H a ob b = some (.tup ys) := fun b ys e => by
  have hne : b ≠ a := by
    rintro rfl
    rw [ha] at e
    exact hu ys (Option.some.inj e)
  rw [upd_ne hne]
  exact e
theorem tups_new {a : Addr} {ob : HO} (ha : H a = none) : ∀ b ys, H b = some (.tup ys) → upd H a ob b = some (.tup ys) := fun b ys e => by
  rw [upd_ne (ne_of_none e ha)]
  exact e

/-! ### d.pop(k), k there -/
def rPop1 : V → List V → Hp → VK → Prop := fun x xs H Q => ∃ (a : Addr) (kvs : List (List Key × V)) (k : List Key) (b : Addr) (v : V),
  x = .ref a ∧ xs = [.ref b] ∧ H a = some (.dT kvs) ∧ H b = some (.tup (k.map kV)) ∧ valV kvs k = some v ∧ Q v (upd H a (.dT (dropK kvs k)))
theorem mt_pop1 (hu : X.A.units + 1 < cLine) : MtR X "dict.pop" rPop1 := by
  rintro pins s σ H x xs v us Q I rx rxs ⟨a, kvs, k, b, v0, rfl, rfl, ha, hb, hv, q⟩
  cases rx
  cases rxs with
  | cons r1 r2 =>
    cases r2
    cases r1
    obtain ⟨z, hd, ws, rel, dd⟩ := dt_of I.hok ha
    have hl := Paired.length rel
    have hr := rel.val k
    rw [hv] at hr
    obtain ⟨p, hp, rp⟩ : ∃ p, atKey ws k = some p ∧ RelV v0 p.2 := by
      cases e : atKey ws k with
      | none => rw [e] at hr; exact (show False from hr).elim
      | some p => rw [e] at hr; exact ⟨p, rfl, hr⟩
    refine call_pop_heap (knd := tupleKind (mixKind X.prog X.w)) (more := []) (hsz := by omega) (.inl rfl) (PySem.F.args_dict_pop_2 _ _) (tupleKind_room_in1 hu) (key_of I.hok hb) hd dd hp fun h' dd' sb => ?_
    have he : ∃ q, h'.get? a = some q := let ⟨q, _, _, hq, _⟩ := dd'; ⟨q, hq⟩
    refine ⟨v0, _, d_write I (by rw [ha]; exact True.intro) sb he (dt_new (Nat.le_trans (dropK_le kvs k) z) hd ((DX.KT_drop k rel).keeps (tups_upd ha (fun _ z => nomatch z))) dd'), rp, q⟩

/-! ### d != {} -/
def rNeEmpty : R2 := fun x y H Q => ∃ (a b : Addr) (kvs : List (List Key × V)), x = .ref a ∧ y = .ref b ∧ H a = some (.dT kvs) ∧ H b = some (.dT []) ∧ Q (.bl (!kvs.isEmpty)) H
section
variable {prog : Program} {w : World} {A : Around} {E : Value → Shared → Prop}
theorem same_empty {nm : String} {a b : Addr} {es : Array DictEntry} {ep ep' : Nat} {Q : Bool → Shared → Prop} (ha : (a == sysModules) = false) (hb : (b == sysModules) = false) (da : s.heap.DictRaw a es ep) (db : s.heap.DictRaw b #[] ep')
    (h : Q (es.size == 0) s) : wpAny (model prog w) A (Builtin.Dict.samePairs nm a b) Q E s := by
  obtain ⟨oa, hoa, _, hda⟩ := da
  obtain ⟨ob, hob, _, hdb⟩ := db
  have n1 : ¬ (a == sysModules) = true := by rw [ha]; decide
  have n2 : ¬ (b == sysModules) = true := by rw [hb]; decide
  unfold Builtin.Dict.samePairs Builtin.Dict.showsAll
  rw [if_neg n1, if_neg n2]
  refine wpAny_bind (wpAny_pure (wpAny_bind (wpAny_pure (wpAny_bind (wpAny_dictEntries hoa hda ?_)))))
  dsimp only
  refine wpAny_bind (wpAny_dictEntries hob hdb ?_)
  by_cases hz : es.size = 0
  · rw [if_neg (by simp [hz])]
    refine wpAny_bind (wpAny_dictEpoch hoa hda (wpAny_bind ?_))
    rw [Std.Legacy.Range.forIn_eq_forIn_range']
    simp only [Std.Legacy.Range.size, hz, Nat.zero_add, Nat.sub_self, Nat.div_one, List.range'_zero]
    refine wpAny_pure ?_
    have e : (es.size == 0) = true := by simp [hz]
    rw [e] at h
    exact wpAny_pure h
  · rw [if_pos (by simpa using hz)]
    have e : (es.size == 0) = false := by simpa using hz
    rw [e] at h
    exact wpAny_bind (wpAny_rule (wpAny_pure h))
theorem ne_empty {a b : Addr} {es : Array DictEntry} {ep ep' : Nat} {Q : Value → Shared → Prop} (ha : (a == sysModules) = false) (hb : (b == sysModules) = false) (da : s.heap.DictRaw a es ep) (db : s.heap.DictRaw b #[] ep')
    (hu : A.units < cLine) (h : Q (.bool (!(es.size == 0))) s) : wpAny (model prog w) A (compareOp .NotEq (.ref a) (.ref b)) Q E s := by
  refine wpAny_richCompare_same_room (op := .NotEq) da.typeIs db.typeIs PySem.F.slot_dict_ne (wpAny_call_entry PySem.F.slot_dict_ne da.typeIs PySem.F.entry_dict_ne ?_ (PySem.F.args_dict_ne_2 _ _)) hu
  show wpAny _ _ (Builtin.Dict.dictSlotArgs "__ne__" ⟨[.ref a, .ref b], []⟩ >>= _) _ _ s
  unfold Builtin.Dict.dictSlotArgs
  refine wpAny_bind (wpAny_bind (wpAny_notOrdered_dict da.typeIs ?_))
  show wpAny _ _ (pure (Value.ref a, Value.ref b)) _ _ s
  refine wpAny_pure (wpAny_bind (wpAny_isInstance (T := "dict") db.typeIs PySem.F.sub_dict_dict ?_))
  simp only [Bool.not_true, Bool.false_eq_true, if_false]
  refine wpAny_bind (wpAny_pure (wpAny_bind (wpAny_pure (wpAny_bind (same_empty ha hb da db (wpAny_pure ⟨_, rfl, ?_, ?_⟩))))))
  · exact fun x => nomatch x
  · simpa using h
end
theorem dt_raw {P : Program} {w : World} {h : Heap} {a : Addr} {kvs : List (List Key × V)} (x : ObjOk P w H h a (.dT kvs)) : (a == sysModules) = false ∧ ∃ es ep, h.DictRaw a es ep ∧ es.size = kvs.length := by
  obtain ⟨_, hd, xs, rel, o, es, ep, h1, h2, h3, h4, _⟩ := x
  refine ⟨hd, es, ep, ⟨o, h1, h2, h3⟩, ?_⟩
  have l1 := congrArg List.length h4
  rw [Array.length_toList, List.length_map] at l1
  have l2 := Paired.length rel
  omega
theorem op_neEmpty (hu : X.A.units < cLine) : OpR X (compareOp .NotEq) rNeEmpty := by
  rintro pins s σ H x y v u Q I rx ry ⟨a, b, kvs, rfl, rfl, ha, hb, q⟩
  cases rx
  cases ry
  obtain ⟨na, es, ep, da, la⟩ := dt_raw (I.hok a _ ha)
  obtain ⟨nb, es', ep', db, lb⟩ := dt_raw (I.hok b _ hb)
  have e0 : es' = #[] := Array.eq_empty_of_size_eq_zero lb
  subst e0
  refine ne_empty na nb da db hu ⟨.bl (!kvs.isEmpty), H, I, ?_, q⟩
  show Value.bool _ = Value.bool _
  rw [la]
  cases kvs <;> rfl
end
end K96

/-! Rules of the walk that the hand layer lacks: d.items(), dict(pairs), displays, update for dicts whose keys are tuples. -/
namespace K96
open PySem PySem.Spec PyProof.Rows L2

/-! ### for k, v in d.items(), keys tuples -/
/-- each turn makes a new pair of the key's own tuple and the value -/
def Itit (d : Addr) (o : Obj) (kvs : List (List Key × V)) : It where
  go i H := H d = some (.frz o (.dT kvs)) ∧ i < kvs.length
  yld i H x H' := ∃ (T q : Addr) (k : List Key) (v : V), kvs[i]? = some (k, v) ∧ x = .ref T ∧ H q = some (.tup (k.map kV)) ∧ H T = none ∧ H' = upd H T (.tup [.ref q, v])
  stop i H := H d = some (.frz o (.dT kvs)) ∧ kvs.length ≤ i
section
variable {X : Cx} {pins : List (Addr × Obj)} {σ : L2.St} {H : Hp} {s : Shared} {d : Addr} {o : Obj}
/-- what the locked dict's object holds, entry by entry -/
theorem frz_ents {kvs : List (List Key × V)} (I : Inv X pins σ H s) (h : H d = some (.frz o (.dT kvs))) : (d == sysModules) = false ∧ s.heap.get? d = some o ∧
    ∃ (es : Array DictEntry) (ep : Nat), o.ExactDict ∧ o.data = .dict es ep ∧ es.size = kvs.length ∧
      ∀ (i : Nat) (k : List Key) (v : V), kvs[i]? = some (k, v) → ∃ (hi : i < es.size) (q : Addr), es[i].key = .ref q ∧ H q = some (.tup (k.map kV)) ∧ RelV v es[i].val := by
  obtain ⟨hd, z, hs, xs, pr, o', es, ep, ho, hx, hdt, he, _⟩ := I.hok d _ h
  rw [hd] at ho
  cases ho
  have l1 : es.size = xs.length := by
    have q := congrArg List.length he
    rwa [Array.length_toList, List.length_map] at q
  refine ⟨hs, hd, es, ep, hx, hdt, l1.trans (Paired.length pr).symm, fun i k v e => ?_⟩
  obtain ⟨b, hb, e1, e2, e3⟩ := paired_get pr e
  have hi : i < es.size := by rw [l1]; exact (List.getElem?_eq_some_iff.mp hb).1
  have q : es.toList[i]? = some (entryOfKey (tupleKind (mixKind X.prog X.w)) b) := by rw [he, List.getElem?_map, hb]; rfl
  rw [Array.getElem?_toList, Array.getElem?_eq_getElem hi] at q
  have q2 := Option.some.inj q
  exact ⟨hi, b.2.1, by rw [q2]; rfl, e2, by rw [q2]; exact e3⟩
end
theorem turn_itemsT {P : Program} {w : World} {K : PySem.W.Frag} {d : Addr} {o : Obj} {es : Array DictEntry} {ep : Nat} {kvs : List (List Key × V)} {elts : List Expr} {kk : Nat} {tpos : Pos} (it : Addr) (hod : o.data = .dict es ep) :
    Turn P w K (.Tuple elts kk tpos) (Itit d o kvs) [it] it (fun i h => ∃ ok ov, IsItemIter h it d i es.size ep ok ov) := by
  refine ⟨List.mem_singleton.mpr rfl, ?_, ?_, ?_, ?_, ?_⟩
  · rintro i h ⟨ok, ov, e⟩ b hb
    rw [List.mem_singleton.mp hb]
    exact ⟨_, e, fun v z => nomatch z⟩
  · rintro i h h' ⟨ok, ov, e⟩ k
    exact ⟨ok, ov, k it (List.mem_singleton.mpr rfl) _ e⟩
  · rintro X rfl rfl rfl hc i pins s σ H E I hf ⟨ok, ov, he⟩ ⟨hd, hi⟩
    obtain ⟨hs, hgd, es', ep', hx, hdt, hsz, ent⟩ := frz_ents I hd
    obtain ⟨rfl, rfl⟩ := dict_ep hod hdt
    obtain ⟨⟨k, v⟩, hkv⟩ : ∃ p, kvs[i]? = some p := ⟨kvs[i], List.getElem?_eq_getElem hi⟩
    obtain ⟨hlt, q, hkey, hq, hval⟩ := ent i k v hkv
    have hit : it < s.heap.objs.size := Heap.lt_size he
    refine wpAny_pyNext_items_item_raw he ⟨o, hgd, hx, hdt⟩ hlt fun h1 ho hT hz hk => ⟨_, rfl, wpAny_letOwnedTupleGo_items (s := { s with heap := h1 }) ho fun h2 he2 sb => ?_⟩
    have hT2 : h2.get? s.heap.objs.size = some { cls := .type "tuple", data := .seq #[.ref q, es'[i].val] } := by
      rw [← hkey]
      exact (sb.2 _ (Nat.ne_of_gt hit)).trans hT
    have new : ObjOk X.prog X.w (upd H s.heap.objs.size (.tup [.ref q, v])) h2 s.heap.objs.size (.tup [.ref q, v]) := by
      refine ⟨?_, [.ref q, es'[i].val], .cons rfl (.cons hval .nil), _, hT2, rfl, _, rfl⟩
      rw [sizeLine_eq]
      show 2 ≤ _
      omega
    have I1 : Inv X pins σ (upd H s.heap.objs.size (.tup [.ref q, v])) { s with heap := h2 } := by
      refine I.turnedNew (t' := s.toks) (ch := [it]) (fun b ob hb e => ?_) hf (Nat.le_refl _) new
      have hb' : b ≠ it := fun z => hb (List.mem_singleton.mpr z)
      exact (sb.2 b hb').trans (hk b ob hb' e)
    refine ⟨.ref s.heap.objs.size, _, I1, rfl, ⟨_, q, k, v, hkv, rfl, hq, I.hok.fresh (Nat.le_refl _), rfl⟩, ⟨_, _, he2⟩, fun b hb => ?_⟩
    rw [List.mem_singleton.mp hb, upd_ne (Nat.ne_of_lt hit)]
    exact (hf it (List.mem_singleton.mpr rfl)).1
  · rintro X rfl rfl rfl hc i pins s σ H E I hf ⟨ok, ov, he⟩ ⟨hd, hi⟩
    obtain ⟨hs, hgd, es', ep', hx, hdt, hsz, ent⟩ := frz_ents I hd
    obtain ⟨rfl, rfl⟩ := dict_ep hod hdt
    obtain ⟨f0, f1, f2, f3, f4, f5⟩ := hf it (List.mem_singleton.mpr rfl)
    exact wpAny_pyNext_items_end_raw (I.ok.hd hc) he ⟨o, hgd, hx, hdt⟩ (by omega) fun h' eb => ⟨rfl, I.turned (t' := s.toks) (fun b ob hb e => eb b ob hb e) f0 f1 f3 f4 f5⟩
  · rintro A i s Q E ⟨ok, ov, e⟩ h
    exact PySem.W.kcp_self e h
def iItemsT (td : TE) : TI := fun σ H R => td σ H fun x H1 => ∃ (d : Addr) (o : Obj) (kvs : List (List Key × V)), x = .ref d ∧ H1 d = some (.frz o (.dT kvs)) ∧ R (Itit d o kvs) H1
theorem pi_itemsT {X : Cx} {e : Expr} {td : TE} {apos cpos : Pos} {elts : List Expr} {kk : Nat} {tpos : Pos} (he : PE X e td) (hbase : attributeBase e "items" X.env (eval e X.env) = eval e X.env := by rfl)
    (hline : (apos.endLine == cpos.line) = true := by rfl) : PI X (.Tuple elts kk tpos) (.Call (.Attribute e "items" apos) [] [] cpos) (iItemsT td) := by
  constructor
  intro pins s σ H R I h
  refine wpAny_Call_method (T := "dict") (id := "dict.items") hbase rfl hline PySem.F.plainAttrs_dict PySem.F.slot_dict_items PySem.F.type_dict_items (thn (he.run pins s σ H _ I h) ?_)
  rintro u s1 ⟨x, H1, I1, rx, d, o, kvs, rfl, hd, q⟩
  cases rx
  obtain ⟨hs, hgd, es, ep, hx, hdt, hsz, _⟩ := frz_ents I1 hd
  have hm : s1.heap.DictRaw d es ep := ⟨o, hgd, hx, hdt⟩
  refine ⟨hm.typeIs, fun b z => ?_, ?_⟩
  · cases z
    exact ⟨o, hgd, hx.2.1⟩
  have I2 : Inv X pins σ H1 { s1 with heap := s1.heap.push { cls := .type "dict_items", data := .fields #[.ref d] } } := I1.kept (t' := s1.toks) fun b ob z => Heap.get?_push_of_some _ z
  have fin : wpAny (model X.prog X.w) X.A (pyIter (.ref s1.heap.objs.size)) (PIE X pins σ (.Tuple elts kk tpos) R) X.xe { s1 with heap := s1.heap.push { cls := .type "dict_items", data := .fields #[.ref d] } } := by
    refine wpAny_pyIter_items_raw (d := d) ⟨_, Heap.get?_push_size _ rfl, rfl, rfl⟩ (hm.at fun ob z => Heap.get?_push_of_some _ z) (pi_one (tk := s1.toks) I2 _ (turn_itemsT _ hdt) ⟨.none, .none, ?_⟩ q)
    exact Heap.get?_push_size _ rfl
  show wpAny _ _ (callWith cpos (.builtin "dict.items") [.ref d] [] []) _ X.xe s1
  exact method_meetsIn PySem.F.slot_dict_items PySem.F.entry_dict_items rfl (PySem.evalArgs_none ⟨rfl, hm.typeIs, PySem.F.args_dict_items_1 _, _, meets_dict_items_raw d hs, ⟨es, ep, hm⟩, fin⟩)
/-- as HandS.Walk tells it -/
theorem walk_itemsT {d : Addr} {o : Obj} {kvs : List (List Key × V)} : Walk (Itit d o kvs) kvs.length (fun H => H d = some (.frz o (.dT kvs))) (fun i H x H' => ∃ (T q : Addr) (k : List Key) (v : V), kvs[i]? = some (k, v) ∧ x = .ref T ∧
    H q = some (.tup (k.map kV)) ∧ H T = none ∧ H' = upd H T (.tup [.ref q, v])) :=
  ⟨fun _ _ hi q => ⟨q, hi⟩, fun _ q => ⟨q, Nat.le_refl _⟩, fun _ _ _ _ _ _ y => y⟩

/-! ### tuples that are known to the object: tuple(list), t[lo:hi] -/
/-- at a stands a tuple without attributes, xs its items -/
def PlT (H : Hp) (a : Addr) (xs : List V) : Prop := ∃ o : Obj, o.dict = none ∧ o.cls = .type "tuple" ∧ H a = some (.frz o (.tup xs))
theorem PlT.seq {K : PySem.W.Frag} {H : Hp} {a : Addr} {xs : List V} (h : PlT H a xs) : SqT K H a xs := by
  obtain ⟨o, _, _, h⟩ := h
  exact .inl (.inr ⟨o, h⟩)
theorem PlT.same {H H' : Hp} {a : Addr} {xs : List V} (e : Same H H') (h : PlT H a xs) : PlT H' a xs := by
  obtain ⟨o, h1, h2, h⟩ := h
  exact ⟨o, h1, h2, e _ _ h⟩
/-- the new heap where such a tuple has been laid -/
def NewT (H : Hp) (xs : List V) (Q : VK) : Prop := ∀ (p : Addr) (o : Obj), H p = none → o.dict = none → o.cls = .type "tuple" → Q (.ref p) (upd H p (.frz o (.tup xs)))
theorem newT_ok {X : Cx} {pins : List (Addr × Obj)} {σ : L2.St} {H : Hp} {s : Shared} {xs : List V} {its : List Value} {Q : VK} (I : Inv X pins σ H s) (r : Vals xs its) (hz : xs.length ≤ sizeLine) (h : NewT H xs Q) :
    EP X pins σ Q (.ref s.heap.objs.size) { s with heap := s.heap.push { cls := .type "tuple", data := .seq its.toArray } } := by
  have hn := I.hok.fresh (Nat.le_refl s.heap.objs.size)
  refine ⟨.ref s.heap.objs.size, _, I.laid (t' := s.toks) (o := .frz { cls := .type "tuple", data := .seq its.toArray } (.tup xs)) (fun b ob q => Heap.get?_push_of_some _ q) (Nat.le_refl _) ?_, rfl, h _ _ hn rfl rfl⟩
  exact ⟨Heap.get?_push_size _ rfl, hz, its, r, IsTup.new _ _⟩
section
variable {X : Cx}
def rTupleP (K : PySem.W.Frag) : List V → Hp → VK → Prop := fun vs H Q => ∃ (p : Addr) (ys : List V), vs = [.ref p] ∧ SqL K H p ys ∧ NewT H ys Q
theorem call_tupleP : CallR X (.type "tuple") (rTupleP X.K) := by
  rintro pins s σ H vs us Q I r ⟨p, ys, rfl, hq, q⟩
  obtain ⟨u, rfl, rx⟩ := vals1 r
  cases rx
  obtain ⟨its, r', pl, hz⟩ := I.list hq
  have hlen := r'.length
  refine call_tuple_list pl.isList (fun h' kp => ?_) (by simp only [List.size_toArray]; omega)
  exact newT_ok (I.kept (t' := s.toks) kp) r' hz q
def rSlP (K : PySem.W.Frag) : V → Option Int → Option Int → Hp → VK → Prop := fun x lo hi H Q => ∃ (a : Addr) (xs : List V), x = .ref a ∧ SqT K H a xs ∧
  (HT.sIx xs.length 0 lo = 0 ∧ HT.sIx xs.length xs.length hi = xs.length → Q (.ref a) H) ∧ (¬ (HT.sIx xs.length 0 lo = 0 ∧ HT.sIx xs.length xs.length hi = xs.length) → NewT H (cutV xs lo hi) Q)
theorem sl_tupP : SlR X (rSlP X.K) := by
  rintro pins s σ H x v vl vu lo hi sl Q I rx hs pl pu ⟨a, xs, rfl, hx, q1, q2⟩
  cases rx
  obtain ⟨its, r, ht, hz⟩ := I.tuple hx
  have hlen : its.toArray.size = xs.length := by rw [List.size_toArray]; exact r.length.symm
  refine ⟨"tuple", _, PyProof.Rows.slot_tuple_getitem.lookup, ht.typeIs, ?_⟩
  by_cases hw : HT.sIx xs.length 0 lo = 0 ∧ HT.sIx xs.length xs.length hi = xs.length
  · exact getItem_tuple_whole ht hs pl pu (by rw [hlen]; exact hw) ⟨.ref a, H, I, rfl, q1 hw⟩
  · refine HT.getItem_tuple_cut ht hs pl pu (by rw [hlen]; exact hw) ?_ (by rw [hlen]; exact hz)
    rw [hlen]
    exact newT_ok I ((r.drop _).take _) (Nat.le_trans (cutV_length xs lo hi) hz) (q2 hw)

/-! ### dict(t), t a tuple of pairs (tuple, value) -/
/-- one pair: its own tuple, its key's, the key, the value -/
structure Pr2 where
  t : Addr
  q : Addr
  k : List Key
  v : V
def Pr2.At (H : Hp) (e : Pr2) : Prop := H e.t = some (.tup [.ref e.q, e.v]) ∧ H e.q = some (.tup (e.k.map kV))
def rDictP : List V → Hp → VK → Prop := fun vs H Q => ∃ (a : Addr) (L : List Pr2), vs = [.ref a] ∧ PlT H a (L.map fun e => .ref e.t) ∧ (∀ e ∈ L, e.At H) ∧ (L.map (·.k)).Nodup ∧
  ∀ d, H d = none → Q (.ref d) (upd H d (.dT (L.map fun e => (e.k, e.v))))
theorem prs_of {P : Program} {w : World} {H : Hp} {h : Heap} (ok : HOk P w H h) : ∀ (L : List Pr2), (∀ e ∈ L, e.At H) → ∃ ws : List (List Key × Addr × Value), KT H (L.map fun e => (e.k, e.v)) ws ∧ ws.length = L.length ∧ ws.map (·.1) = L.map (·.k) ∧
    ∀ (j : Nat) (e : Pr2), L[j]? = some e → ∃ x, ws[j]? = some x ∧ x.1 = e.k ∧ x.2.1 = e.q ∧ h.IsTuple e.t #[.ref x.2.1, x.2.2]
  | [], _ => ⟨[], .nil, rfl, rfl, fun j e z => by simp at z⟩
  | e :: L, hL => by
    obtain ⟨ws, k1, k2, k3, k4⟩ := prs_of ok L fun x hx => hL x (List.mem_cons_of_mem _ hx)
    obtain ⟨h1, h2⟩ := hL e List.mem_cons_self
    obtain ⟨_, its, r, o, ho, hc, n, hd⟩ := (show ObjOk P w H h e.t (.tup [.ref e.q, e.v]) from ok _ _ h1)
    obtain ⟨u1, u2, rfl, r1, r2⟩ := vals2 r
    cases r1
    refine ⟨(e.k, e.q, u2) :: ws, .cons ⟨rfl, h2, r2⟩ k1, by simp [k2], by simp [k3], fun j x z => ?_⟩
    cases j with
    | zero =>
      cases z
      exact ⟨_, rfl, rfl, rfl, ⟨o, ho, hc, n, hd⟩⟩
    | succ j => exact k4 j x z
theorem storedAllH_new {K : Type} [DecidableEq K] : ∀ (ps xs : List (K × Addr × Value)), ((xs ++ ps).map (·.1)).Nodup → storedAllH xs ps = xs ++ ps
  | [], xs, _ => by simp [storedAllH]
  | p :: ps, xs, hn => by
    have e : storedH xs p.1 p.2.1 p.2.2 = xs ++ [p] := by
      refine storedH_new ?_ _ _
      unfold atKey
      rw [Option.map_eq_none_iff, List.find?_eq_none]
      intro x hx hk
      rw [List.map_append] at hn
      have hd := (List.nodup_append.mp hn).2.2
      exact hd x.1 (List.mem_map.mpr ⟨x, hx, rfl⟩) p.1 (List.mem_map.mpr ⟨p, List.mem_cons_self, rfl⟩) (of_decide_eq_true hk)
    have q := storedAllH_new ps (xs ++ [p]) (by simpa using hn)
    show storedAllH (storedH xs p.1 p.2.1 p.2.2) ps = _
    rw [e, q, List.append_assoc]
    rfl
theorem call_dictPT (hc : X.calm = true) (hu : X.A.units + 2 < cLine) : CallR X (.type "dict") rDictP := by
  rintro pins s σ H vs us Q I r ⟨a, L, rfl, hp, hL, hn, q⟩
  obtain ⟨u, rfl, rx⟩ := vals1 r
  cases rx
  obtain ⟨o, o1, o2, ha⟩ := hp
  obtain ⟨hga, hz, its, rv, ⟨o', ho', hc', n, hd'⟩⟩ := (show ObjOk X.prog X.w H s.heap a (.frz o (.tup (L.map fun e => .ref e.t))) from I.hok _ _ ha)
  rw [hga] at ho'
  cases ho'
  obtain ⟨ws, k1, k2, k3, k4⟩ := prs_of I.hok L hL
  have hlen := rv.length
  rw [List.length_map] at hlen hz
  let Ts : Nat → Addr := fun j => (L[j]?.map (·.t)).getD 0
  refine call_dict_pairsH (knd := tupleKind (mixKind X.prog X.w)) (ps := ws) (PairArg.tuple a its.toArray Ts (ws.map fun x => (Value.ref x.2.1, x.2.2))) (I.ok.hd hc) (tupleKind_room_in1 (by show X.A.units + 1 + 1 < cLine; exact hu))
    ⟨⟨o, n, hga, o2, o1, hd'⟩, by simp; omega, fun j k v z => ?_⟩ ⟨by simp, fun i key v z => ?_⟩ (fun h' hk x hx => ?_) (by simp; omega) fun h' tk dd hk => ?_
  · rw [List.getElem?_map, Option.map_eq_some_iff] at z
    obtain ⟨x, hx, ex⟩ := z
    cases ex
    have hj : j < L.length := by rw [← k2]; exact (List.getElem?_eq_some_iff.mp hx).1
    obtain ⟨x', hx', _, _, ht⟩ := k4 j L[j] (List.getElem?_eq_getElem hj)
    rw [hx] at hx'
    cases hx'
    have eT : Ts j = L[j].t := by show (L[j]?.map (·.t)).getD 0 = _; rw [List.getElem?_eq_getElem hj]; rfl
    rw [eT]
    obtain ⟨u, hu, ru⟩ := rv.get (i := j) (x := .ref L[j].t) (by rw [List.getElem?_map, List.getElem?_eq_getElem hj]; rfl)
    cases ru
    exact ⟨by simpa using hu, .inl ht⟩
  · have z' : (ws.map fun x => (Value.ref x.2.1, x.2.2))[i]? = some (key, v) := z
    rw [List.getElem?_map, Option.map_eq_some_iff] at z'
    obtain ⟨x, hx, ex⟩ := z'
    cases ex
    exact ⟨x.1, x.2.1, hx, rfl⟩
  · obtain ⟨j, hj⟩ := List.mem_iff_getElem?.mp hx
    have hjl : j < L.length := by rw [← k2]; exact (List.getElem?_eq_some_iff.mp hj).1
    obtain ⟨x', hx', e1, e2, _⟩ := k4 j L[j] (List.getElem?_eq_getElem hjl)
    rw [hj] at hx'
    cases hx'
    have ht := (hL L[j] (List.getElem_mem hjl)).2
    have hkey := key_of I.hok ht
    rw [e1, e2]
    exact tupleKind_stays.stays (fun b ob vs m e _ => hk b ob (Nat.ne_of_lt (Heap.lt_size e)) (fun z => nomatch z) e) hkey
  · have hn' : (ws.map (·.1)).Nodup := by rw [k3]; exact hn
    rw [storedAllH_new ws [] (by simpa using hn')] at dd
    have fr := I.hok.fresh (Nat.le_refl s.heap.objs.size)
    refine ⟨.ref s.heap.objs.size, _, I.laid (a := s.heap.objs.size) (o := .dT (L.map fun e => (e.k, e.v))) (t' := tk) (fun b ob e => hk b ob (fun z => nomatch z) e) (Nat.le_refl _) ?_, rfl, q _ fr⟩
    exact dt_new (by rw [List.length_map]; exact hz) (beq_eq_false_iff_ne.mpr (Ne.symm (Nat.ne_of_lt I.big))) (k1.keeps (tups_new fr)) dd
end
end K96

/-! Rules of the walk that the hand layer lacks: displays, updates and comprehensions of dicts whose keys are tuples. -/
namespace K96
open PySem PySem.Spec PyProof.Rows L2

/-! ### a display whose keys are tuples, each once -/
/-- one pair: the key's own tuple, the key, the value -/
structure Pr1 where
  q : Addr
  k : List Key
  v : V
def tDispT (trs : List (TE × TE)) : TE := fun σ H Q => ∀ p, H p = none → tPairs trs σ (upd H p (.dT [])) fun ps H2 => H2 p = some (.dT []) ∧
  ∃ L : List Pr1, ps = L.map (fun e => (V.ref e.q, e.v)) ∧ (∀ e ∈ L, H2 e.q = some (.tup (e.k.map kV))) ∧ (L.map (·.k)).Nodup ∧ L.length ≤ 15 ∧ Q (.ref p) (upd H2 p (.dT (L.map fun e => (e.k, e.v))))
theorem carr_of {P : Program} {w : World} {H : Hp} {h : Heap} (ok : HOk P w H h) : ∀ (L : List Pr1) (ws : List (Value × Value)), VV (L.map fun e => (V.ref e.q, e.v)) ws → (∀ e ∈ L, H e.q = some (.tup (e.k.map kV))) →
    ∃ rs : List (List Key × Addr × Value), CarriesH (tupleKind (mixKind P w)) h ws rs ∧ KT H (L.map fun e => (e.k, e.v)) rs ∧ rs.map (·.1) = L.map (·.k)
  | [], _, r, _ => by
    cases r
    exact ⟨[], True.intro, .nil, rfl⟩
  | e :: L, _, r, hL => by
    cases r with
    | @cons a b as bs h1 t =>
      obtain ⟨rs, c, k1, k2⟩ := carr_of ok L bs t fun x hx => hL x (List.mem_cons_of_mem _ hx)
      have he := hL e List.mem_cons_self
      obtain ⟨b1, b2⟩ := b
      obtain ⟨r1, r2⟩ := h1
      cases r1
      exact ⟨(e.k, e.q, b2) :: rs, ⟨rfl, rfl, key_of ok he, c⟩, .cons ⟨rfl, he, r2⟩ k1, by simp [k2]⟩
theorem pe_dispT {X : Cx} {pos : Pos} {keys : List (Option Expr)} {values : List Expr} {trs : List (TE × TE)} (hu : X.A.units < cLine) (h : PPs X pos keys values trs) (hall : keys.all (·.isSome) = true) (hl : keys.length = values.length) (h0 : keys ≠ [])
    (h15 : keys.length ≤ 15) : PE X (.Dict keys values pos) (tDispT trs) := by
  constructor
  intro pins s σ H Q I q
  have hn := I.hok.fresh (Nat.le_refl s.heap.objs.size)
  have hlen := pairTrees_length keys values X.env pos hall hl
  have I1 := I.laid (a := s.heap.objs.size) (o := .dT []) (h' := s.heap.push { cls := .type "dict", data := .dict #[] }) (t' := s.toks) (fun _ _ q => Heap.get?_push_of_some _ q) (Nat.le_refl _) (dt_empty s.heap I.big)
  rw [arm_eval_Dict, zip_pairTrees keys values X.env pos hall hl, dictDisplay_pairs (pairTrees keys values X.env pos) (fun z => h0 (List.length_eq_zero_iff.mp (by rw [← hlen, z]; rfl))) (by omega)]
  refine wpAny_bind (wpAny_standAt (wpAny_bind (wpAny_subDictH (knd := tupleKind (mixKind X.prog X.w)) hu (by omega) (thn (h.run pins _ σ _ _ I1 (q _ hn)) ?_))))
  rintro ws s2 ⟨ps, H2, I2, rel, e, L, rfl, hL, hnd, h15', q2⟩
  obtain ⟨rs, c, k1, k2⟩ := carr_of I2.hok L ws rel hL
  obtain ⟨z, hd, xs0, r0, dd⟩ := dt_of I2.hok e
  cases r0
  refine ⟨rs, c, dd, fun h' tk dd' sb => wpAny_pure ⟨.ref s.heap.objs.size, _, ?_, rfl, q2⟩⟩
  rw [storedAllH_new rs [] (by simpa using (by rw [k2]; exact hnd : (rs.map (·.1)).Nodup))] at dd'
  have he : ∃ q, h'.get? s.heap.objs.size = some q := let ⟨q, _, _, hq, _⟩ := dd'; ⟨q, hq⟩
  refine d_write (t' := tk) I2 (by rw [e]; exact True.intro) sb he (dt_new ?_ hd (k1.keeps (tups_upd e fun _ z => nomatch z)) dd')
  rw [List.length_map, sizeLine_eq]
  omega

/-! ### d.update(d2), the keys of d2 not in d; an empty d asks that d2's keys have unlike hashes -/
def rUpdT (P : Program) (w : World) : V → List V → Hp → VK → Prop := fun x xs H Q => ∃ (a b : Addr) (kvs more : List (List Key × V)), x = .ref a ∧ xs = [.ref b] ∧ a ≠ b ∧ H a = some (.dT kvs) ∧ H b = some (.dT more) ∧
  ((kvs ++ more).map (·.1)).Nodup ∧ (kvs ≠ [] ∨ (more.map fun kv => (tupleKind (mixKind P w)).hash kv.1).Nodup) ∧ kvs.length + more.length ≤ sizeLine ∧ Q .non (upd H a (.dT (kvs ++ more)))
theorem KT_app {H : Hp} {l1 l2 : List (List Key × V)} {m1 m2 : List (List Key × Addr × Value)} (h1 : KT H l1 m1) (h2 : KT H l2 m2) : KT H (l1 ++ l2) (m1 ++ m2) := by
  induction h1 with
  | nil => exact h2
  | cons h t ih => exact .cons h ih
theorem KT_keys {H : Hp} {l : List (List Key × V)} {m : List (List Key × Addr × Value)} (h : KT H l m) : m.map (·.1) = l.map (·.1) := by
  induction h with
  | nil => rfl
  | cons h t ih => rw [List.map_cons, List.map_cons, ih, h.1]
theorem mt_updT {X : Cx} (hu : X.A.units + 1 < cLine) : MtR X "dict.update" (rUpdT X.prog X.w) := by
  rintro pins s σ H x xs v us Q I rx rxs ⟨a, b, kvs, more, rfl, rfl, hab, ha, hb, hnd, hap, hsz, q⟩
  cases rx
  cases rxs with
  | cons r1 r2 =>
    cases r2
    cases r1
    obtain ⟨z, hd, ws, rel, dd⟩ := dt_of I.hok ha
    obtain ⟨z2, hd2, ws2, rel2, dd2⟩ := dt_of I.hok hb
    have l1 := Paired.length rel
    have l2 := Paired.length rel2
    have e1 := KT_keys rel
    have e2 := KT_keys rel2
    refine call_update_dictH (tupleKind_room_in1 hu) hab hd2 dd dd2 ?_ (by omega) fun h' dd' dd2' sb => ?_
    · rcases hap with h | h
      · exact .inl fun z => h (List.length_eq_zero_iff.mp (by rw [l1, z]; rfl))
      · refine .inr ⟨keyed_apart tupleKind_stays dd2, ?_⟩
        have e3 : (ws2.map fun x => (tupleKind (mixKind X.prog X.w)).hash x.1) = (ws2.map (·.1)).map (tupleKind (mixKind X.prog X.w)).hash := by rw [List.map_map]; rfl
        have e4 : (more.map fun x => (tupleKind (mixKind X.prog X.w)).hash x.1) = (more.map (·.1)).map (tupleKind (mixKind X.prog X.w)).hash := by rw [List.map_map]; rfl
        rw [e3, e2, ← e4]
        exact h
    · rw [storedAllH_new ws2 ws (by rw [List.map_append, e1, e2, ← List.map_append]; exact hnd)] at dd'
      have he : ∃ q, h'.get? a = some q := let ⟨q, _, _, hq, _⟩ := dd'; ⟨q, hq⟩
      refine ⟨.non, _, d_write (t' := s.toks) I (by rw [ha]; exact True.intro) sb he (dt_new (by rw [List.length_append]; exact hsz) hd ((KT_app rel rel2).keeps (tups_upd ha fun _ z => nomatch z)) dd'), rfl, q⟩

/-! ### d.pop, d[k] = v by a comprehension -/
/-- what a block asks of d[k] = v: d of tuple keys -/
theorem set_dt {X : Cx} {pins : List (Addr × Obj)} {σ : L2.St} {H : Hp} {s : Shared} {E : Value → Shared → Prop} {D b : Addr} {kvs : List (List Key × V)} {k : List Key} {v : V} {r : Value} {Q : Unit → Shared → Prop} (hu : X.A.units < cLine) (I : Inv X pins σ H s)
    (hD : H D = some (.dT kvs)) (hb : H b = some (.tup (k.map kV))) (hz : kvs.length < sizeLine) (rv : RelV v r) (h : ∀ s', Inv X pins σ (upd H D (.dT (putK kvs k v))) s' → Q () s') : wpAny (model X.prog X.w) X.A (dictSet D (.ref b) r) Q E s := by
  obtain ⟨z, hd, ws, rel, dd⟩ := dt_of I.hok hD
  have l1 := Paired.length rel
  have l2 := length_putK kvs k v
  refine wpAny_dictSet_heap (hsz := by omega) hu (key_of I.hok hb) dd fun h' dd' sb => h _ ?_
  have he : ∃ q, h'.get? D = some q := let ⟨q, _, _, hq, _⟩ := dd'; ⟨q, hq⟩
  exact d_write I (by rw [hD]; exact True.intro) sb he (dt_new (by omega) hd ((rel.put k hb rv).keeps (tups_upd hD fun _ z => nomatch z)) dd')
/-- {k: v for target in iter}, keys tuples; D the new dict -/
def tDcT (wi : TI) (g : TG) (tk tv : TE) (vs : List Nat) : TE := fun σ H Q => wi σ H fun J H1 => ∀ D, H1 D = none → ∃ W : Nat → Nat → Hp → Prop, (∃ m, W 0 m (upd H1 D (.dT []))) ∧ ∀ i m H, W i m H →
  (J.stop i H ∧ Q (.ref D) H) ∨ (J.go i H ∧ ∃ Nx : Hp → Prop, (∀ H', Nx H' → ∃ m', m' < m ∧ W (i + 1) m' H') ∧ ∀ x H', J.yld i H x H' → g x (wipe σ vs) H' fun σ2 H2 => wipe σ2 vs = wipe σ vs ∧
    tk σ2 H2 fun y H4 => tv σ2 H4 fun z H5 => ∃ (b : Addr) (k : List Key) (kvs : List (List Key × V)), y = .ref b ∧ H5 b = some (.tup (k.map kV)) ∧ H5 D = some (.dT kvs) ∧ kvs.length < sizeLine ∧ Nx (upd H5 D (.dT (putK kvs k z))))
section
variable {X : Cx} {kx vx tg iter : Expr} {scope : Scope} {own : List (Str × Nat)} {wi : TI} {g : TG} {tk tv : TE}
/-- all that is asked of the parts of the block -/
structure DcParts (X : Cx) (scope : Scope) (kx vx tg : Expr) (g : TG) (tk tv : TE) : Prop where
  g : ∀ (s : Shared) (H : Hp) (C : Addr) (cl : List (Str × Addr)) (fp : List Addr), PG (X.blk s H scope (compEnvC scope cl C X.env) fp) tg g
  k : ∀ (s : Shared) (H : Hp) (C : Addr) (cl : List (Str × Addr)) (fp : List Addr), PE (X.blk s H scope (compEnvC scope cl C X.env) fp) kx tk
  v : ∀ (s : Shared) (H : Hp) (C : Addr) (cl : List (Str × Addr)) (fp : List Addr), PE (X.blk s H scope (compEnvC scope cl C X.env) fp) vx tv
theorem dcT_core {pins : List (Addr × Obj)} {s : Shared} {σ : L2.St} {H : Hp} {Q : VK} {pos pos' : Pos} {use : Option (Value → Sem Unit)} {Qf : Value → Shared → Prop} (hc : X.calm = true) (hu : X.A.units < cLine) (hN : X.N.Nodup) (I : Inv X pins σ H s) (hi : PI X tg iter wi)
    (ok : BlkOk X.N X.env.scope scope own) (hp : DcParts X scope kx vx tg g tk tv) (hs : ∀ x, foldedSetIterable iter X.env x = pure x) (h : tDcT wi g tk tv (own.map (·.2)) σ H Q)
    (hRR : ∀ D C s' m H', Inv X pins σ H' s' → Q (.ref D) H' → s'.heap.Ns C m → FpOk X pins H' C → compPost (model X.prog X.w) X.A X.xe use Qf (.ref D) C (.ok .next) s') :
    wpAny (model X.prog X.w) X.A (comprehension (.DictComp kx vx [⟨tg, iter, [], 0⟩] scope pos) scope X.env pos' newDict false (eval iter X.env) use) Qf X.xe s := by
  have cellsThere : ∀ y ∈ scope.names, y.2 = .free → ∃ c, X.env.cells.lookup y.1 = some c := by
    intro y hy e
    have q := ok.free y hy e
    exact I.ok.has _ (q.imp id id)
  have locs : ∀ y ∈ scope.names, y.2 = .local → scope.names.lookup y.1 = some .local := by
    intro y hy e
    have q := ok.uniq y hy
    rw [e] at q
    exact q
  refine wpAny_comprehension_free (use := use) rfl hs (closure_ok cellsThere) ok.kind locs (thn (hi.run pins s σ H _ I h) fun xv s1 hx => thn hx ?_)
  rintro _ s2 ⟨it, fp, tn, J, H2, rfl, I2, T, st2, f2, q⟩
  refine wpAny_newObj_type (newEnv_comp ?_)
  have hDn : H2 s2.heap.objs.size = none := I2.hok.fresh (Nat.le_refl _)
  obtain ⟨W, ⟨m0, w0⟩, turn⟩ := q _ hDn
  generalize eD : s2.heap.objs.size = D at hDn w0 turn ⊢
  have small : ∀ b ∈ fp, b < D := fun b hb => by
    obtain ⟨o, e, _⟩ := T.obj _ _ st2 b hb
    rw [← eD]
    exact Heap.lt_size e
  -- the new dict
  obtain ⟨h3, eh⟩ : ∃ h3, h3 = s2.heap.push { cls := .type "dict", data := .dict #[] } := ⟨_, rfl⟩
  have k23 : ∀ b o, s2.heap.get? b = some o → h3.get? b = some o := fun b o e => by rw [eh]; exact Heap.get?_push_of_some _ e
  have z3 : h3.objs.size = D + 1 := by rw [eh, Heap.size_push, eD]
  have I3 : Inv X pins σ (upd H2 D (.dT [])) { s2 with heap := h3 } := by
    refine I2.laid (t' := s2.toks) k23 (Nat.le_of_eq eD) ?_
    rw [eh, ← eD]
    exact dt_empty s2.heap I2.big
  obtain ⟨H3, eH⟩ : ∃ H3, H3 = upd H2 D (.dT []) := ⟨_, rfl⟩
  rw [← eH] at I3 w0
  have f3 : ∀ b ∈ fp, FpOk X pins H3 b ∧ b < h3.objs.size := fun b hb => by
    have l := small b hb
    have f := f2 b hb
    refine ⟨⟨?_, f.2⟩, by rw [z3]; exact Nat.lt_succ_of_lt l⟩
    rw [eH, upd_ne (Nat.ne_of_lt l)]
    exact f.1
  rw [← eh]
  show codeAny _ _ _ _ _
  -- the block
  obtain ⟨s3, es⟩ : ∃ s3 : Shared, s3 = { s2 with heap := h3 } := ⟨_, rfl⟩
  have eh3 : s3.heap = h3 := by rw [es]
  rw [← es] at I3
  have I4 := block_start I3 ok hN (by rw [eh3]; exact f3)
  have pg := hp.g s3 H3 s3.heap.objs.size (cellsFrom (s3.heap.objs.size + 1) scope.names (cloFrom X.env.cells scope.names [])) fp
  have pk := hp.k s3 H3 s3.heap.objs.size (cellsFrom (s3.heap.objs.size + 1) scope.names (cloFrom X.env.cells scope.names [])) fp
  have pv' := hp.v s3 H3 s3.heap.objs.size (cellsFrom (s3.heap.objs.size + 1) scope.names (cloFrom X.env.cells scope.names [])) fp
  have eqn : ({ s2 with heap := pushCells (h3.push { cls := .type "dict", data := .dict #[] }) scope.names } : Shared) = { s3 with heap := pushCells (s3.heap.push { cls := .type "dict", data := .dict #[] }) scope.names } := by rw [es]
  show codeAny (model X.prog X.w) X.A (.compStart (.DictComp kx vx [⟨tg, iter, [], 0⟩] scope pos) 0 (.ref it) (.ref D) (compEnvC scope (cellsFrom (h3.objs.size + 1) scope.names (cloFrom X.env.cells scope.names [])) h3.objs.size X.env))
    (compPost (model X.prog X.w) X.A X.xe use Qf (.ref D) h3.objs.size) { s2 with heap := pushCells (h3.push { cls := .type "dict", data := .dict #[] }) scope.names }
  rw [eqn, ← eh3]
  obtain ⟨C, eC⟩ : ∃ C, C = s3.heap.objs.size := ⟨_, rfl⟩
  obtain ⟨ce, ece⟩ : ∃ ce, ce = compEnvC scope (cellsFrom (s3.heap.objs.size + 1) scope.names (cloFrom X.env.cells scope.names [])) s3.heap.objs.size X.env := ⟨_, rfl⟩
  have cL : ce.locals = C := by rw [ece, eC]; rfl
  obtain ⟨s4, e4⟩ : ∃ s4 : Shared, s4 = { s3 with heap := pushCells (s3.heap.push { cls := .type "dict", data := .dict #[] }) scope.names } := ⟨_, rfl⟩
  have st3 : tn 0 s3.heap := T.keep _ _ _ st2 fun b _ o e => by rw [eh3]; exact k23 b o e
  have st4 : tn 0 s4.heap := T.keep _ _ _ st3 fun b _ o e => by rw [e4]; exact pushCells_keeps _ _ _ _ (Heap.get?_push_of_some _ e)
  have n3 : ∀ b ∈ fp, H3 b = none := fun b hb => (f3 b hb).1.1
  rw [← ece] at pg pk pv' I4 ⊢
  rw [← e4] at I4 ⊢
  rw [← eC]
  clear eqn e4 ece
  have fpB : ∀ {σ' : L2.St} {H' : Hp} {s' : Shared}, Inv (X.blk s3 H3 scope ce fp) [] σ' H' s' → (∀ b ∈ fp, H' b = none) → ∀ b ∈ fp, FpOk (X.blk s3 H3 scope ce fp) [] H' b := by
    intro σ' H' s' I' hn b hb
    have x1 := I'.ok.exf b hb
    exact ⟨hn b hb, x1.1, I'.ok.exfs b hb, .inl hb, x1.2, fun p hp => absurd hp (by simp)⟩
  have loop : codeAny (model X.prog X.w) X.A (.compLoop (.DictComp kx vx [⟨tg, iter, [], 0⟩] scope pos) 0 (.ref it) (.ref D) ce) (compPost (model X.prog X.w) X.A X.xe use Qf (.ref D) C) s4 := by
    refine compLoop_anyD (fun n s' => ∃ i H', Inv (X.blk s3 H3 scope ce fp) [] (wipe σ (own.map (·.2))) H' s' ∧ tn i s'.heap ∧ (∀ b ∈ fp, H' b = none) ∧ W i n H') ?_ m0 ⟨0, H3, I4, st4, n3, w0⟩
    rintro n s5 ⟨i, H5, I5, st5, n5, w5⟩
    rcases turn i n H5 w5 with ⟨stop, qq⟩ | ⟨go, Nx, hNx, step⟩
    · refine thnF (T.done (X.blk s3 H3 scope ce fp) rfl rfl rfl hc i [] s5 _ H5 (fun _ _ => False) I5 (fpB I5 n5) st5 stop) ?_
      rintro _ s6 ⟨rfl, I6⟩
      have I7 : Inv X pins σ H5 s6 := by
        refine I3.call' (ch := fp) I6.os I6.base I6.hok I6.bare fun b hb => ?_
        obtain ⟨_, y1, _, y3, y4, y5⟩ := (f3 b hb).1
        exact ⟨y3, y1, y4, y5⟩
      have nC : H5 C = none := by
        have z : H5 ce.locals = none := I6.free
        rwa [cL] at z
      obtain ⟨m, hn, _⟩ := I6.loc
      have hn' : s6.heap.Ns C m := by
        have z : s6.heap.Ns ce.locals m := hn
        rwa [cL] at z
      exact hRR D C s6 m H5 I7 qq hn' (I3.fpOk (Nat.le_of_eq eC.symm) nC)
    · refine thnF (T.item (X.blk s3 H3 scope ce fp) rfl rfl rfl hc i [] s5 _ H5 (fun _ _ => False) I5 (fpB I5 n5) st5 go) ?_
      rintro _ s6 ⟨u, rfl, h6⟩
      refine thnF h6 ?_
      rintro _ s7 ⟨x, H7, I7, r7, y7, st7, n7⟩
      refine thnF (pg.run _ s7 _ H7 x u _ (I7.pinned (fpB I7 n7) (T.obj _ _ st7)) r7 (step x H7 y7)) ?_
      rintro _ s8 ⟨σ8, H8, I8, hw8, q8⟩
      refine wpAny_tests_nil ?_
      rw [if_pos rfl]
      refine thnF (pk.run _ s8 σ8 H8 _ I8 q8) ?_
      rintro _ s10 ⟨yk, H10, I10, r10, q10⟩
      refine thnF (pv'.run _ s10 σ8 H10 _ I10 q10) ?_
      rintro z2 s11 ⟨yv, H11, I11, r11, b, k, kvs, rfl, hb11, hD11, hz11, nx⟩
      cases r10
      refine set_dt (X := X.blk s3 H3 scope ce fp) hu I11 hD11 hb11 hz11 r11 fun s12 I12 => ?_
      obtain ⟨m', hm, w'⟩ := hNx _ nx
      have held : ∀ c ∈ fp, ∀ o, s7.heap.get? c = some o → s12.heap.get? c = some o ∧ upd H11 D (.dT (putK kvs k yv)) c = none := fun c hc o e => by
        have z := I12.pin (c, o) (List.mem_append_right _ (List.mem_append_right _ (mem_pinsAt hc e)))
        exact ⟨z.1, z.2.1⟩
      have hl : (wipe σ (own.map (·.2))).length = σ8.length := by rw [← hw8, wipe_length]
      refine ⟨m', hm, i + 1, _, (I12.unpinned (pins := [])).weak hl (fun j v e => ?_), T.keep _ _ _ st7 fun c hc o e => (held c hc o e).1, fun c hc => ?_, w'⟩
      · rw [← hw8] at e
        exact (wipe_some e).1
      · obtain ⟨o, e, _⟩ := T.obj _ _ st7 c hc
        exact (held c hc o e).2
  exact codeAny_compStart_dict loop (T.self X.A 0 _ _ _ st4 loop)
theorem pe_dcT {pos : Pos} (hc : X.calm = true) (hu : X.A.units < cLine) (hN : X.N.Nodup) (hi : PI X tg iter wi) (ok : BlkOk X.N X.env.scope scope own) (hp : DcParts X scope kx vx tg g tk tv) (hs : ∀ x, foldedSetIterable iter X.env x = pure x := by intro _; rfl) :
    PE X (.DictComp kx vx [⟨tg, iter, [], 0⟩] scope pos) (tDcT wi g tk tv (own.map (·.2))) := by
  constructor
  intro pins s σ H Q I h
  rw [arm_eval_DictComp]
  refine dcT_core hc hu hN I hi ok hp hs h fun D C s' m H' I' q hn f => ⟨m, hn, fun h'' sb => ?_⟩
  obtain ⟨f0, f1, f2, f3, f4, f5⟩ := f
  exact ⟨.ref D, H', I'.turned (t' := s'.toks) (fun b o hb e => (sb.2 b hb).trans e) f0 f1 f3 f4 f5, rfl, q⟩
/-- name = {..} on one line, the name a local -/
theorem ps_setDcT {i : Nat} {y : Str} {py pos spos : Pos} (hc : X.calm = true) (hu : X.A.units < cLine) (hN : X.N.Nodup) (hy : X.N[i]? = some y) (hyl : X.env.scope.names.lookup y = some .local)
    (hsw : swapsWith (.DictComp kx vx [⟨tg, iter, [], 0⟩] scope pos) (some (.Name y py)) spos.line X.env = pure true) (hi : PI X tg iter wi) (ok : BlkOk X.N X.env.scope scope own) (hp : DcParts X scope kx vx tg g tk tv)
    (hs : ∀ x, foldedSetIterable iter X.env x = pure x := by intro _; rfl) : PS X (.Assign [.Name y py] (.DictComp kx vx [⟨tg, iter, [], 0⟩] scope pos) spos) (tAsg (tDcT wi g tk tv (own.map (·.2))) (gName i)) := by
  constructor
  intro pins s σ H D I h
  rw [exec_Assign_Name_used _ _ _ _ hsw]
  refine wpAny_bind (wpAny_standAt (wpAny_bind ?_))
  show wpAny _ X.A (do let _ ← comprehension (.DictComp kx vx [⟨tg, iter, [], 0⟩] scope pos) scope X.env (firstIterPos [⟨tg, iter, [], 0⟩] pos) newDict false (eval iter X.env) (some (assign (.Name y py) X.env))) _ _ s
  have h : tDcT wi g tk tv (own.map (·.2)) σ H (fun x H1 => gName i x σ H1 D.nx) := h
  refine wpAny_bind (thn (dcT_core (Qf := fun _ s' => SP X pins D .next s') hc hu hN I hi ok hp hs h fun L C s' m H' I' q hn f => ?_) fun _ s' hq => wpAny_pure (wpAny_pure hq))
  show wpAny _ _ (assign (.Name y py) X.env (.ref L)) _ _ _
  refine wpAny_assign_Name (store_ok2 (v := V.ref L) I' hN hy (.inl hyl) rfl (fun s2 I2 ⟨a, sb, ha⟩ => ?_) (.inr hyl))
  obtain ⟨f0, f1, f2, f3, f4, f5⟩ := f
  have haC : C ≠ a := by
    rcases ha with z | z
    · rw [z]; exact f1
    · exact fun e => f4 y a z e.symm
  refine ⟨m, hn.sameBut sb haC, fun h3 sb3 => ?_⟩
  exact ⟨_, H', I2.turned (t' := s2.toks) (fun b o hb e => (sb3.2 b hb).trans e) f0 f1 f3 f4 f5, q⟩
theorem swD_true {kx vx : Expr} {gs : List Comprehension} {scope : Scope} {pos py : Pos} {y : Str} {l : Nat} {env : Env} (hk : env.scope.kind = .function) (hy : env.scope.names.lookup y = some .local) (hl : (py.line == pos.line) = true)
    (ha : (scope.names.any fun (n, k) => n == y && (k == .local || k == .cell)) = false) : swapsWith (.DictComp kx vx gs scope pos) (some (.Name y py)) l env = pure true := by
  have ky : env.kindOf y = some .local := hy
  have hb : env.blockKind = .function := by unfold Env.blockKind; rw [hk]; rfl
  unfold swapsWith
  simp only [hb, ky, ha, Expr.pos, hl]
  rfl
end
/-- over anything that HandS.Walk tells -/
theorem dcT_it {J : It} {n : Nat} {G : Hp → Prop} {Y : Nat → Hp → V → Hp → Prop} (w : Walk J n G Y) {g : TG} {tk tv : TE} {vs : List Nat} {σ : L2.St} {H1 : Hp} {D : Addr} {Qd : Hp → Prop} (Pv : Nat → Hp → Prop) (h0 : Pv 0 (upd H1 D (.dT [])))
    (hG : ∀ i H, i ≤ n → Pv i H → G H) (hs : ∀ i x H H', i < n → Pv i H → Y i H x H' → g x (wipe σ vs) H' fun σ2 H2 => wipe σ2 vs = wipe σ vs ∧ tk σ2 H2 fun y H4 => tv σ2 H4 fun z H5 =>
      ∃ (b : Addr) (k : List Key) (kvs : List (List Key × V)), y = .ref b ∧ H5 b = some (.tup (k.map kV)) ∧ H5 D = some (.dT kvs) ∧ kvs.length < sizeLine ∧ Pv (i + 1) (upd H5 D (.dT (putK kvs k z)))) (hd : ∀ H, Pv n H → Qd H) :
    ∃ W : Nat → Nat → Hp → Prop, (∃ m, W 0 m (upd H1 D (.dT []))) ∧ ∀ i m H, W i m H →
      (J.stop i H ∧ Qd H) ∨ (J.go i H ∧ ∃ Nx : Hp → Prop, (∀ H', Nx H' → ∃ m', m' < m ∧ W (i + 1) m' H') ∧ ∀ x H', J.yld i H x H' → g x (wipe σ vs) H' fun σ2 H2 => wipe σ2 vs = wipe σ vs ∧ tk σ2 H2 fun y H4 => tv σ2 H4 fun z H5 =>
        ∃ (b : Addr) (k : List Key) (kvs : List (List Key × V)), y = .ref b ∧ H5 b = some (.tup (k.map kV)) ∧ H5 D = some (.dT kvs) ∧ kvs.length < sizeLine ∧ Nx (upd H5 D (.dT (putK kvs k z)))) := by
  refine ⟨fun i m H => m + i = n ∧ Pv i H, ⟨n, rfl, h0⟩, ?_⟩
  rintro i m H ⟨hm, p⟩
  have q := hG i H (by omega) p
  by_cases hlt : i < n
  · refine .inr ⟨w.goes i H hlt q, Pv (i + 1), fun H' p' => ⟨m - 1, by omega, by omega, p'⟩, fun x H' y => hs i x H H' hlt p (w.yields i H x H' hlt q y)⟩
  · have e : i = n := by omega
    subst e
    exact .inl ⟨w.stops H q, hd H p⟩
end K96

/-! Rules of the walk that the hand layer lacks: sorted of tuples whose items are ints and tuples of ints, any number of them. -/
namespace K96
open PySem PySem.Spec PyProof.Rows L2

/-! ### an order by places -/
def lexL {α : Type} [DecidableEq α] (lt : α → α → Bool) : List α → List α → Bool
  | [], [] => false
  | [], _ :: _ => true
  | _ :: _, [] => false
  | x :: xs, y :: ys => if x = y then lexL lt xs ys else lt x y
/-- a total order -/
structure Tot {α : Type} (lt : α → α → Bool) : Prop where
  irr : ∀ x, lt x x = false
  tri : ∀ x y, x ≠ y → lt x y = !lt y x
  trans : ∀ x y z, lt x y = true → lt y z = true → lt x z = true
theorem Tot.swo {α : Type} [DecidableEq α] {lt : α → α → Bool} (T : Tot lt) : SrtO.Swo lt := by
  have asym : ∀ x y, lt x y = true → lt y x = false := fun x y h => by
    by_cases e : x = y
    · subst e; exact T.irr x
    · rw [T.tri x y e] at h
      simpa using h
  refine ⟨asym, fun x y z h1 h2 => ?_⟩
  by_cases e1 : x = y
  · subst e1; exact h2
  by_cases e2 : y = z
  · subst e2; exact h1
  have a : lt x y = true := by rw [T.tri x y e1, h1]; rfl
  have b : lt y z = true := by rw [T.tri y z e2, h2]; rfl
  exact asym _ _ (T.trans x y z a b)
theorem lexL_tot {α : Type} [DecidableEq α] {lt : α → α → Bool} (T : Tot lt) : Tot (lexL lt) := by
  have irr : ∀ x, lexL lt x x = false := fun x => by
    induction x with
    | nil => rfl
    | cons a r ih => simp [lexL, ih]
  have tri : ∀ x y, x ≠ y → lexL lt x y = !lexL lt y x := fun x => by
    induction x with
    | nil =>
      intro y h
      cases y with
      | nil => exact absurd rfl h
      | cons b r => rfl
    | cons a r ih =>
      intro y h
      cases y with
      | nil => rfl
      | cons b r' =>
        by_cases e : a = b
        · subst e
          simpa [lexL] using ih r' (fun z => h (by rw [z]))
        · have e' : ¬ b = a := fun z => e z.symm
          simpa [lexL, e, e'] using T.tri a b e
  refine ⟨irr, tri, fun x => ?_⟩
  induction x with
  | nil =>
    intro y z h1 h2
    cases z with
    | nil => cases y <;> simp [lexL] at h1 h2
    | cons c r => rfl
  | cons a r ih =>
    intro y z h1 h2
    cases y with
    | nil => simp [lexL] at h1
    | cons b r' =>
      cases z with
      | nil => simp [lexL] at h2
      | cons c r'' =>
        by_cases e1 : a = b
        · subst e1
          by_cases e2 : a = c
          · subst e2
            simp only [lexL, if_true] at h1 h2 ⊢
            exact ih r' r'' h1 h2
          · simp only [lexL, if_true, if_neg e2] at h1 h2 ⊢
            exact h2
        · by_cases e2 : b = c
          · subst e2
            simp only [lexL, if_true, if_neg e1] at h1 h2 ⊢
            exact h1
          · simp only [lexL, if_neg e1, if_neg e2] at h1 h2
            have q := T.trans a b c h1 h2
            by_cases e3 : a = c
            · subst e3
              rw [T.irr] at q
              cases q
            · simp only [lexL, if_neg e3]
              exact q
theorem int_tot : Tot (fun x y : Int => decide (x < y)) := by
  refine ⟨fun x => by simp, fun x y h => ?_, fun x y z h1 h2 => ?_⟩
  · by_cases q : x < y
    · have : ¬ y < x := by omega
      simp [q, this]
    · have : y < x := by omega
      simp [q, this]
  · have := of_decide_eq_true h1
    have := of_decide_eq_true h2
    exact decide_eq_true (by omega)
theorem lexLt_is (x y : List Int) : HT.lexLt x y = lexL (fun a b : Int => decide (a < b)) x y := by
  induction x generalizing y with
  | nil => cases y <;> rfl
  | cons a r ih =>
    cases y with
    | nil => rfl
    | cons b r' => rw [HT.lexLt_cons, ih]; rfl

/-! ### an item's part: an int, or a tuple of ints -/
abbrev At := Sum Int (List Int)
def ltA : At → At → Bool
  | .inl a, .inl b => decide (a < b)
  | .inl _, .inr _ => true
  | .inr _, .inl _ => false
  | .inr s, .inr t => HT.lexLt s t
theorem ltA_tot : Tot ltA := by
  have L := lexL_tot int_tot
  refine ⟨?_, ?_, ?_⟩
  · rintro (a | s)
    · exact int_tot.irr a
    · show HT.lexLt s s = false
      rw [lexLt_is]
      exact L.irr s
  · rintro (a | s) (b | t) h
    · exact int_tot.tri a b (fun z => h (by rw [z]))
    · rfl
    · rfl
    · show HT.lexLt s t = !HT.lexLt t s
      rw [lexLt_is, lexLt_is]
      exact L.tri s t (fun z => h (by rw [z]))
  · rintro (a | s) (b | t) (c | u) h1 h2
    · exact int_tot.trans a b c h1 h2
    · rfl
    · cases h2
    · rfl
    · cases h1
    · cases h1
    · cases h2
    · show HT.lexLt s u = true
      have h1 : HT.lexLt s t = true := h1
      have h2 : HT.lexLt t u = true := h2
      rw [lexLt_is] at h1 h2 ⊢
      exact L.trans s t u h1 h2
def AtIs (h : Heap) (v : Value) : At → Prop
  | .inl i => ∃ t, v = .int i t
  | .inr x => ∃ (a : Addr) (its : List Value), v = .ref a ∧ IsTup h a its.toArray ∧ IntsAre its x
theorem AtIs.keep {h h' : Heap} {v : Value} {d : At} (x : AtIs h v d) (k : ∀ b o, h.get? b = some o → o.cls = .type "tuple" → h'.get? b = some o) : AtIs h' v d := by
  cases d with
  | inl i => exact x
  | inr ns =>
    obtain ⟨a, its, e, ⟨o, ho, hc, n, hd⟩, hi⟩ := x
    exact ⟨a, its, e, ⟨o, k a o ho hc, hc, n, hd⟩, hi⟩
/-- the item v is the tuple of the parts d, each of the kind that its place has -/
def ItIs (sh : Nat → Bool) (h : Heap) (v : Value) (d : List At) : Prop := ∃ (a : Addr) (o : Obj) (its : List Value) (n : Nat), v = .ref a ∧ h.get? a = some o ∧ o.cls = .type "tuple" ∧ o.data = .seq its.toArray n ∧ Paired (AtIs h) its d ∧
  (∀ i y, d[i]? = some y → y.isLeft = sh i) ∧ d ≠ []
theorem ItIs.keep {sh : Nat → Bool} {h h' : Heap} {v : Value} {d : List At} (x : ItIs sh h v d) (k : ∀ b o, h.get? b = some o → o.cls = .type "tuple" → h'.get? b = some o) : ItIs sh h' v d := by
  obtain ⟨a, o, its, n, e, ho, hc, hd, hp, hs⟩ := x
  exact ⟨a, o, its, n, e, k a o ho hc, hc, hd, Paired.mapP hp fun _ _ z => z.keep k, hs⟩

section
variable {prog : Program} {w : World} {A : Around} {E : Value → Shared → Prop} {s : Shared}
theorem ints_key {its : List Value} {x : List Int} (h : IntsAre its x) : ItemsAre (intKind prog w) x its := by
  induction h with
  | nil => exact .nil
  | cons n t r ih => exact .cons (by show Value.isInt n (.int n t) = true; simp [Value.isInt]) ih
theorem at_key {h : Heap} {a : Addr} {its : List Value} {x : List Int} (ht : IsTup h a its.toArray) (hi : IntsAre its x) : IsTupleKey (intKind prog w) h x a := by
  obtain ⟨o, h1, h2, n, h3⟩ := ht
  exact ⟨o, its.toArray, n, h1, h2, h3, ints_key hi⟩
/-- from the place i on -/
theorem lex_go {sh : Nat → Bool} {fin b : Bool} {Q : Bool → Shared → Prop} (hu : A.units < cLine) (hb : b = sh 0) : ∀ (xs ys : List Value) (d e : List At) (i : Nat), Paired (AtIs s.heap) xs d → Paired (AtIs s.heap) ys e →
    (∀ j y, d[j]? = some y → y.isLeft = sh (i + j)) → (∀ j y, e[j]? = some y → y.isLeft = sh (i + j)) → fin = decide (d.length < e.length) →
    Q (lexL ltA d e) s → PySem.W.KatLex prog w A b fin Q (xs.zip ys) i s
  | [], ys, d, e, i, h1, h2, k1, k2, hf, hq => by
    cases h1
    refine PySem.W.kat_nil ?_
    rw [hf]
    cases e <;> exact hq
  | x :: xs, [], d, e, i, h1, h2, k1, k2, hf, hq => by
    cases h1
    cases h2
    refine PySem.W.kat_nil ?_
    rw [hf]
    exact hq
  | x :: xs, y :: ys, _, _, i, .cons (b := p) (l₂ := d) hx h1, .cons (b := q) (l₂ := e) hy h2, k1, k2, hf, hq => by
    have hp : p.isLeft = sh i := k1 0 p rfl
    have hq' : q.isLeft = sh i := k2 0 q rfl
    have next : p = q → PySem.W.KatLex prog w A b fin Q (xs.zip ys) (i + 1) s := fun ee => by
      subst ee
      have hlen : fin = decide (d.length < e.length) := by
        rw [hf]
        simp
      refine lex_go hu hb xs ys d e (i + 1) h1 h2 (fun j z hj => ?_) (fun j z hj => ?_) hlen ?_
      · have := k1 (j + 1) z hj
        rwa [show i + (j + 1) = i + 1 + j by omega] at this
      · have := k2 (j + 1) z hj
        rwa [show i + (j + 1) = i + 1 + j by omega] at this
      · simpa [lexL] using hq
    show PySem.W.KatLex prog w A b fin Q ((x, y) :: xs.zip ys) i s
    cases p with
    | inl m =>
      cases q with
      | inr z => rw [← hp] at hq'; cases hq'
      | inl n =>
        obtain ⟨t, rfl⟩ := hx
        obtain ⟨u, rfl⟩ := hy
        refine PySem.W.kat_cons (SeqAt.EqAt.int_int m t n u prog w _ _ ?_)
        refine PySem.W.kat_go (fun e1 => ?_) (fun e1 => ?_)
        · exact PySem.W.kat_yes (next (by have : m = n := by simpa using e1
                                          rw [this]))
        · have ne : ¬ m = n := by simpa using e1
          have hv : Q (decide (m < n)) s := by
            have : lexL ltA (Sum.inl m :: d) (Sum.inl n :: e) = decide (m < n) := by simp [lexL, ne, ltA]
            rwa [this] at hq
          exact PySem.W.kat_no (TS.oneLt_ints _ hv)
    | inr m =>
      cases q with
      | inl z => rw [← hp] at hq'; cases hq'
      | inr n =>
        obtain ⟨a, its, rfl, ht, hi⟩ := hx
        obtain ⟨a', its', rfl, ht', hi'⟩ := hy
        refine PySem.W.kat_cons (wpAny_eqBool_tuple (knd := intKind prog w) hu (at_key ht hi) (at_key ht' hi') ?_)
        refine PySem.W.kat_go (fun e1 => ?_) (fun e1 => ?_)
        · exact PySem.W.kat_yes (next (by have : m = n := by simpa using e1
                                          rw [this]))
        · have ne : ¬ m = n := by simpa using e1
          have hbf : (b && i == 0) = false := by
            by_cases hi0 : i = 0
            · subst hi0
              rw [hb, ← hp]
              rfl
            · simp [hi0]
          have hv : Q (HT.lexLt m n) s := by
            have : lexL ltA (Sum.inr m :: d) (Sum.inr n :: e) = HT.lexLt m n := by simp [lexL, ne, ltA]
            rwa [this] at hq
          refine PySem.W.kat_no ?_
          rw [hbf]
          exact PySem.W.kat_one _ _ (HT.lt_tupInts ht ht' (by simpa using hi) (by simpa using hi') hu hv)
theorem items_cmp {sh : Nat → Bool} {vs : List Value} {d : Value → List At} (hu : A.units < cLine) (hp : ∀ v ∈ vs, ItIs sh s.heap v (d v)) : SrtO.Cmp prog w A s (tuples' (sh 0)) (fun p => p.1 ∈ vs) (SrtO.lt2 fun v u => lexL ltA (d v) (d u)) := by
  intro p q hm hm'
  obtain ⟨a, o, its, n, e, ho, hc, hd, h1, k1, _⟩ := hp _ hm
  obtain ⟨a', o', its', n', e', ho', hc', hd', h2, k2, _⟩ := hp _ hm'
  show wpAny (model prog w) A (keyLt' (tuples' (sh 0)) p.1 q.1) (fun r s' => s' = s ∧ r = lexL ltA (d p.1) (d q.1)) (fun _ _ => False) s
  generalize d p.1 = dp at h1 k1 ⊢
  generalize d q.1 = dq at h2 k2 ⊢
  rw [e, e']
  refine PySem.W.kat_lt ho hd ho' hd' ?_
  have l1 := Paired.length h1
  have l2 := Paired.length h2
  refine lex_go hu rfl its its' dp dq 0 h1 h2 (fun j y hj => ?_) (fun j y hj => ?_) ?_ ⟨rfl, rfl⟩
  · rw [Nat.zero_add]; exact k1 j y hj
  · rw [Nat.zero_add]; exact k2 j y hj
  · simp only [List.size_toArray, l1, l2]
theorem firsts_at {sh : Nat → Bool} {h : Heap} {d : Value → List At} : ∀ vs : List Value, (∀ v ∈ vs, ItIs sh h v (d v)) → ∃ fs : List Value, PySem.W.KatTups h vs fs ∧ fs.length = vs.length ∧ ∀ f ∈ fs, ∃ y, AtIs h f y ∧ y.isLeft = sh 0
  | [], _ => ⟨[], PySem.W.KatTups.nil, rfl, fun f hf => absurd hf (by simp)⟩
  | v :: vs, x => by
    obtain ⟨fs, k, hl, hi⟩ := firsts_at vs fun u hu => x u (List.mem_cons_of_mem _ hu)
    obtain ⟨a, o, its, n, e, ho, hc, hd, hp, hs, hne⟩ := x v List.mem_cons_self
    subst e
    revert hp hs hne
    generalize d (.ref a) = dv
    intro hp hs hne
    cases hp with
    | nil => exact absurd rfl hne
    | @cons f y its' d' hf ht =>
      refine ⟨f :: fs, PySem.W.KatTups.cons ho hc hd rfl k, by simp [hl], fun g hg => ?_⟩
      rcases List.mem_cons.mp hg with rfl | hg
      · exact ⟨y, hf, hs 0 y rfl⟩
      · exact hi g hg
theorem items_sortable {sh : Nat → Bool} {a : Addr} {vs : List Value} {d : Value → List At} (hu : A.units < cLine) (h0 : 0 < vs.length) (hp : ∀ v ∈ vs, ItIs sh s.heap v (d v)) (ha : ∀ o, s.heap.get? a = some o → o.cls ≠ .type "tuple") :
    SrtO.SortableO prog w A s a vs fun v u => lexL ltA (d v) (d u) := by
  intro h' keep
  have hp' : ∀ v ∈ vs, ItIs sh h' v (d v) := fun v hm => (hp v hm).keep fun b o e c => keep b o (fun z => by subst z; exact ha o e c) e
  obtain ⟨fs, k1, k2, k3⟩ := firsts_at vs hp'
  refine ⟨tuples' (sh 0), fun Q E hq => ?_, items_cmp hu hp'⟩
  cases hsh : sh 0 with
  | true =>
    refine PySem.W.kat_kind (T := .type "int") k1 (by omega) (fun f hf => ?_) (by rfl) ?_
    · obtain ⟨y, hy, hl⟩ := k3 f hf
      rw [hsh] at hl
      cases y with
      | inr _ => cases hl
      | inl i =>
        obtain ⟨t, rfl⟩ := hy
        exact PySem.W.Looks.now
    · have e : (Value.type "int" != Value.type "tuple") = true := by decide +kernel
      rw [e]
      rw [hsh] at hq
      exact hq
  | false =>
    refine PySem.W.kat_kind (T := .type "tuple") k1 (by omega) (fun f hf => ?_) (by rfl) ?_
    · obtain ⟨y, hy, hl⟩ := k3 f hf
      rw [hsh] at hl
      cases y with
      | inl _ => cases hl
      | inr i =>
        obtain ⟨b, its, rfl, ⟨o, ho, hc, _⟩, _⟩ := hy
        have q : PySem.W.Looks (model prog w) h' (typeOf (.ref b)) o.cls := (PySem.W.Looks.ld ho).andThen .now
        rw [hc] at q
        exact q
    · have e : (Value.type "tuple" != Value.type "tuple") = false := by decide +kernel
      rw [e]
      rw [hsh] at hq
      exact hq
end

/-! ### as a rule of the layer: some rearrangement comes back -/
def AV (H : Hp) (v : V) : At → Prop
  | .inl i => v = .int i
  | .inr x => ∃ q, v = .ref q ∧ H q = some (.tup (x.map V.int))
def rSortN (K : PySem.W.Frag) : List V → Hp → VK → Prop := fun vs H Q => ∃ (a : Addr) (xs : List V) (sh : Nat → Bool) (d : V → List At), vs = [V.ref a] ∧ SqL K H a xs ∧
  (∀ x ∈ xs, ∃ t its, x = V.ref t ∧ H t = some (.tup its) ∧ Paired (AV H) its (d x) ∧ (∀ i y, (d x)[i]? = some y → y.isLeft = sh i) ∧ d x ≠ []) ∧ ∀ ys p, ys.Perm xs → H p = none → Q (.ref p) (upd H p (.lst ys))
theorem av_is {P : Program} {w : World} {H : Hp} {h : Heap} (ok : HOk P w H h) {v : V} {u : Value} {y : At} (r : RelV v u) (x : AV H v y) : AtIs h u y := by
  cases y with
  | inl i =>
    have e : v = .int i := x
    subst e
    exact r
  | inr ns =>
    obtain ⟨q, rfl, hq⟩ := x
    cases r
    obtain ⟨_, its, rv, pt⟩ := (show ObjOk P w H h q (.tup (ns.map V.int)) from ok _ _ hq)
    exact ⟨q, its, rfl, pt, rv.ints⟩
theorem avs_are {P : Program} {w : World} {H : Hp} {h : Heap} (ok : HOk P w H h) : ∀ {its : List V} {us : List Value} {d : List At}, Vals its us → Paired (AV H) its d → Paired (AtIs h) us d
  | _, _, _, .nil, .nil => .nil
  | _, _, _, .cons r t, .cons x y => .cons (av_is ok r x) (avs_are ok t y)
theorem cr_sortN {X : Cx} (hu : X.A.units + 2 < cLine) : CallR X (.builtin "sorted") (rSortN X.K) := by
  rintro pins s σ H vs us Q I r ⟨a, xs, sh, d, rfl, hs, hx, q⟩
  obtain ⟨its, rv, hl, hz⟩ := I.list hs
  obtain ⟨u, rfl, ru⟩ := vals1 r
  cases ru
  have refs : ∀ x ∈ xs, ∃ t, x = V.ref t := fun x m => by
    obtain ⟨t, _, e, _⟩ := hx x m
    exact ⟨t, e⟩
  obtain ⟨e1, e2⟩ := refs_back rv refs
  have hp : ∀ v ∈ its, ItIs sh s.heap v (d (backV v)) := fun v hv => by
    obtain ⟨t, rfl⟩ := e2 v hv
    have hm : V.ref t ∈ xs := by rw [e1]; exact List.mem_map.mpr ⟨_, hv, rfl⟩
    obtain ⟨t', its', e, ht, hd, hsh, hne⟩ := hx _ hm
    cases e
    obtain ⟨_, us', r', o, ho, hc, n, hdt⟩ := (show ObjOk X.prog X.w H s.heap t (.tup its') from I.hok _ _ ht)
    exact ⟨t, o, us', n, rfl, ho, hc, hdt, avs_are I.hok r' hd, hsh, hne⟩
  have swo : SrtO.Swo fun v u : Value => lexL ltA (d (backV v)) (d (backV u)) := by
    have S := (lexL_tot ltA_tot).swo
    exact ⟨fun x y => S.asym _ _, fun x y z => S.tr _ _ _⟩
  have hlen : its.length = xs.length := by rw [e1, List.length_map]
  refine SrtO.sorted_ord swo hl.isList (by rw [hlen]; exact hz) (fun h2 h1 a' ha' kk => ?_) fun out k1 k2 => ?_
  · refine items_sortable (s := { s with heap := h1 }) (by show X.A.units + 1 + 1 < cLine; exact hu) (by omega) (fun v hv => (hp v hv).keep fun b o e _ => (kk b o e).2) fun o e => ?_
    have e' : some o = some (seqObj "list" its.toArray 0) := e.symm.trans ha'
    cases e'
    intro c
    exact absurd (Value.type.inj c) (by decide)
  · have h3 : ∀ u ∈ out, ∃ a, u = Value.ref a := fun u hu => e2 u (k2.perm.mem_iff.mp hu)
    obtain ⟨n, hn⟩ := PyProof.Rows.sortedAll_at s.heap its out.toArray
    have hpm : (out.map backV).Perm xs := by
      rw [e1]
      exact k2.perm.map backV
    have fr := I.hok.fresh (Nat.le_succ s.heap.objs.size)
    refine ⟨.ref _, upd H (s.heap.objs.size + 1) (.lst (out.map backV)), I.laid (t' := s.toks) (fun _ _ => PyProof.Rows.sortedAll_old) (Nat.le_succ _) ⟨?_, out, n, vals_back h3, hn⟩, rfl, q _ _ hpm fr⟩
    rw [hpm.length_eq]
    exact hz
end K96

/-! Rules of the walk that the hand layer lacks: xs[::2], xs[1::2] of short lists; set of a tuple of ints. -/
namespace K96
open PySem PySem.Spec PyProof.Rows L2

/-- every second one -/
def evn {α : Type} : List α → List α
  | [] => []
  | [x] => [x]
  | x :: _ :: r => x :: evn r
theorem pick_at {items : Array Value} {lo : Option Int} (ks : List Nat) (h : sliceRange (sliceBounds lo none (some 2) items.size).1 (sliceBounds lo none (some 2) items.size).2.1 (sliceBounds lo none (some 2) items.size).2.2 = ks) :
    slicePick items lo none (some 2) = (ks.filterMap (items[·]?)).toArray := by
  unfold slicePick
  rw [h]
theorem pick_evn (l : List Value) (h : l.length ≤ 4) : slicePick l.toArray none none (some 2) = (evn l).toArray := by
  match l, h with
  | [], _ => rfl
  | [a], _ => exact pick_at (items := #[a]) [0] (by show sliceRange (sliceBounds none none (some 2) 1).1 (sliceBounds none none (some 2) 1).2.1 (sliceBounds none none (some 2) 1).2.2 = [0]; decide +kernel)
  | [a, b], _ => exact pick_at (items := #[a, b]) [0] (by show sliceRange (sliceBounds none none (some 2) 2).1 (sliceBounds none none (some 2) 2).2.1 (sliceBounds none none (some 2) 2).2.2 = [0]; decide +kernel)
  | [a, b, c], _ => exact pick_at (items := #[a, b, c]) [0, 2] (by show sliceRange (sliceBounds none none (some 2) 3).1 (sliceBounds none none (some 2) 3).2.1 (sliceBounds none none (some 2) 3).2.2 = [0, 2]; decide +kernel)
  | [a, b, c, d], _ => exact pick_at (items := #[a, b, c, d]) [0, 2] (by show sliceRange (sliceBounds none none (some 2) 4).1 (sliceBounds none none (some 2) 4).2.1 (sliceBounds none none (some 2) 4).2.2 = [0, 2]; decide +kernel)
  | _ :: _ :: _ :: _ :: _ :: _, h => exact absurd h (by simp)
theorem pick_odd (l : List Value) (h : l.length ≤ 4) : slicePick l.toArray (some 1) none (some 2) = (evn l.tail).toArray := by
  match l, h with
  | [], _ => rfl
  | [a], _ => exact pick_at (items := #[a]) [] (by show sliceRange (sliceBounds (some 1) none (some 2) 1).1 (sliceBounds (some 1) none (some 2) 1).2.1 (sliceBounds (some 1) none (some 2) 1).2.2 = []; decide +kernel)
  | [a, b], _ => exact pick_at (items := #[a, b]) [1] (by show sliceRange (sliceBounds (some 1) none (some 2) 2).1 (sliceBounds (some 1) none (some 2) 2).2.1 (sliceBounds (some 1) none (some 2) 2).2.2 = [1]; decide +kernel)
  | [a, b, c], _ => exact pick_at (items := #[a, b, c]) [1] (by show sliceRange (sliceBounds (some 1) none (some 2) 3).1 (sliceBounds (some 1) none (some 2) 3).2.1 (sliceBounds (some 1) none (some 2) 3).2.2 = [1]; decide +kernel)
  | [a, b, c, d], _ => exact pick_at (items := #[a, b, c, d]) [1, 3] (by show sliceRange (sliceBounds (some 1) none (some 2) 4).1 (sliceBounds (some 1) none (some 2) 4).2.1 (sliceBounds (some 1) none (some 2) 4).2.2 = [1, 3]; decide +kernel)
  | _ :: _ :: _ :: _ :: _ :: _, h => exact absurd h (by simp)
theorem evn_len {α : Type} : ∀ l : List α, (evn l).length ≤ l.length
  | [] => Nat.le_refl _
  | [x] => Nat.le_refl _
  | x :: y :: r => by
    have := evn_len r
    simp only [evn, List.length_cons]
    omega
theorem evn_vals : ∀ {xs : List V} {us : List Value}, Vals xs us → Vals (evn xs) (evn us)
  | _, _, .nil => .nil
  | _, _, .cons r .nil => .cons r .nil
  | _, _, .cons r (.cons _ t) => .cons r (evn_vals t)
/-- xs[::2] (b false), xs[1::2] (b true) -/
def tEvn (K : PySem.W.Frag) (b : Bool) (te : TE) : TE := fun σ H Q => te σ H fun x H1 => ∃ (a : Addr) (xs : List V), x = .ref a ∧ SqL K H1 a xs ∧ xs.length ≤ 4 ∧
  ∀ p, H1 p = none → Q (.ref p) (upd H1 p (.lst (evn (if b then xs.tail else xs))))
section
variable {X : Cx} {e : Expr} {te : TE} {k k2 : Nat} {p1 p2 p3 pos : Pos}
theorem evn_go {vl vu vs : Value} {l : Option Int} {b : Bool} {s4 : Shared} {pins : List (Addr × Obj)} {σ : L2.St} {H4 : Hp} {Q : VK} {a : Addr} {xs : List V} (I4 : Inv X pins σ H4 s4) (hx : SqL X.K H4 a xs) (h4 : xs.length ≤ 4)
    (hl : (b = false ∧ l = none) ∨ (b = true ∧ l = some 1)) (pl : IsPart vl l) (pu : IsPart vu none) (ps : IsPart vs (some 2)) (q : ∀ p, H4 p = none → Q (.ref p) (upd H4 p (.lst (evn (if b then xs.tail else xs))))) :
    wpAny (model X.prog X.w) X.A (getItem (.ref a) (.ref s4.heap.objs.size)) (EP X pins σ Q) X.xe { s4 with heap := s4.heap.push { cls := .type "slice", data := .fields #[vl, vu, vs] } } := by
  have I5 : Inv X pins σ H4 { s4 with heap := s4.heap.push { cls := .type "slice", data := .fields #[vl, vu, vs] } } := I4.kept (t' := s4.toks) fun b ob z => Heap.get?_push_of_some _ z
  obtain ⟨its, r, ht, hz⟩ := I5.list hx
  have hlen := r.length
  have pick : slicePick its.toArray l none (some 2) = (evn (if b then its.tail else its)).toArray := by
    rcases hl with ⟨rfl, rfl⟩ | ⟨rfl, rfl⟩
    · exact pick_evn its (by omega)
    · exact pick_odd its (by omega)
  refine wpAny_getItem_list_slice ht.isList (Heap.IsSliceOf.new _ vl vu vs) pl pu ps (by decide) ?_ (by rw [List.size_toArray]; omega)
  rw [pick]
  have hv : Vals (evn (if b then xs.tail else xs)) (evn (if b then its.tail else its)) := by
    cases b with
    | false => exact evn_vals r
    | true =>
      have e1 : xs.drop 1 = xs.tail := by simp
      have e2 : its.drop 1 = its.tail := by simp
      have := r.drop 1
      rw [e1, e2] at this
      exact evn_vals this
  refine ⟨.ref _, _, I5.laid (t' := s4.toks) (o := .lst (evn (if b then xs.tail else xs))) (fun b ob z => Heap.get?_push_of_some _ z) (Nat.le_refl _) ⟨?_, _, 0, hv, Heap.get?_push_size _ rfl⟩, rfl, q _ (I5.hok.fresh (Nat.le_refl _))⟩
  have l1 := evn_len (if b then xs.tail else xs)
  have l2 : (if b then xs.tail else xs).length ≤ xs.length := by
    cases b with
    | false => exact Nat.le_refl _
    | true => simp
  omega
theorem pe_evn (he : PE X e te) : PE X (.Subscript e (.Slice none none (some (.Constant (.int 2) k p1)) p3) pos) (tEvn X.K false te) := by
  constructor
  intro pins s σ H Q I h
  refine Subscript_ (thn (he.run pins s σ H _ I h) ?_)
  rintro v s1 ⟨x, H1, I1, r1, a, xs, rfl, hx, h4, q⟩
  cases r1
  refine wpAny_Slice (thn (po_none.run pins s1 σ H1 (fun o H2 => o = none ∧ H2 = H1) I1 ⟨rfl, rfl⟩) ?_)
  rintro vl s2 ⟨_, _, I2, pl, rfl, rfl⟩
  refine thn (po_none.run pins s2 σ _ (fun o H3 => o = none ∧ H3 = _) I2 ⟨rfl, rfl⟩) ?_
  rintro vu s3 ⟨_, _, I3, pu, rfl, rfl⟩
  refine thn ((po_some pe_int).run pins s3 σ _ (fun o H3 => o = some 2 ∧ H3 = _) I3 ⟨2, rfl, rfl, rfl⟩) ?_
  rintro vs s4 ⟨_, _, I4, ps, rfl, rfl⟩
  have ht : Shared.TypeIs { s4 with heap := s4.heap.push { cls := .type "slice", data := .fields #[vl, vu, vs] } } (.ref a) "list" := by
    obtain ⟨its, r, ht, _⟩ := (I4.kept (h' := s4.heap.push { cls := .type "slice", data := .fields #[vl, vu, vs] }) (t' := s4.toks) fun b ob z => Heap.get?_push_of_some _ z).list hx
    exact ht.isList.typeIs
  show wpAny (model X.prog X.w) X.A (subscriptTail e (.Slice none none (some (.Constant (.int 2) k p1)) p3) (.ref a) (.ref s4.heap.objs.size)) (EP X pins σ Q) X.xe { s4 with heap := s4.heap.push { cls := .type "slice", data := .fields #[vl, vu, vs] } }
  exact tail_any (ops := [.ref a, .ref s4.heap.objs.size]) ht (PySem.slot_list_getitem.lookup) (evn_go I4 hx h4 (.inl ⟨rfl, rfl⟩) pl pu ps q) (by with_unfolding_all rfl)
theorem pe_odd (he : PE X e te) : PE X (.Subscript e (.Slice (some (.Constant (.int 1) k2 p2)) none (some (.Constant (.int 2) k p1)) p3) pos) (tEvn X.K true te) := by
  constructor
  intro pins s σ H Q I h
  refine Subscript_ (thn (he.run pins s σ H _ I h) ?_)
  rintro v s1 ⟨x, H1, I1, r1, a, xs, rfl, hx, h4, q⟩
  cases r1
  refine wpAny_Slice (thn ((po_some pe_int).run pins s1 σ H1 (fun o H2 => o = some 1 ∧ H2 = H1) I1 ⟨1, rfl, rfl, rfl⟩) ?_)
  rintro vl s2 ⟨_, _, I2, pl, rfl, rfl⟩
  refine thn (po_none.run pins s2 σ _ (fun o H3 => o = none ∧ H3 = _) I2 ⟨rfl, rfl⟩) ?_
  rintro vu s3 ⟨_, _, I3, pu, rfl, rfl⟩
  refine thn ((po_some pe_int).run pins s3 σ _ (fun o H3 => o = some 2 ∧ H3 = _) I3 ⟨2, rfl, rfl, rfl⟩) ?_
  rintro vs s4 ⟨_, _, I4, ps, rfl, rfl⟩
  have ht : Shared.TypeIs { s4 with heap := s4.heap.push { cls := .type "slice", data := .fields #[vl, vu, vs] } } (.ref a) "list" := by
    obtain ⟨its, r, ht, _⟩ := (I4.kept (h' := s4.heap.push { cls := .type "slice", data := .fields #[vl, vu, vs] }) (t' := s4.toks) fun b ob z => Heap.get?_push_of_some _ z).list hx
    exact ht.isList.typeIs
  show wpAny (model X.prog X.w) X.A (subscriptTail e (.Slice (some (.Constant (.int 1) k2 p2)) none (some (.Constant (.int 2) k p1)) p3) (.ref a) (.ref s4.heap.objs.size)) (EP X pins σ Q) X.xe { s4 with heap := s4.heap.push { cls := .type "slice", data := .fields #[vl, vu, vs] } }
  exact tail_any (ops := [.ref a, .ref s4.heap.objs.size]) ht (PySem.slot_list_getitem.lookup) (evn_go I4 hx h4 (.inr ⟨rfl, rfl⟩) pl pu ps q) (by with_unfolding_all rfl)
end

/-! ### set(t), t a tuple of ints -/
section
variable {X : Cx}
def rSetI (K : PySem.W.Frag) (w : World) : List V → Hp → VK → Prop := fun vs H Q => ∃ (p : Addr) (ns : List Int), vs = [.ref p] ∧ SqT K H p (ns.map V.int) ∧ ns.length ≤ 1000 ∧
  ∀ (a : Addr) (c : Nat), H a = none → c ≤ ns.length → Q (.ref a) (upd H a (SetO w a (fun j => decide (j ∈ ns)) c))
theorem cr_setI (hc : X.calm = true) : CallR X (.type "set") (rSetI X.K X.w) := by
  rintro pins s σ H vs us Q I r ⟨p, ns, rfl, hq, hl, q⟩
  obtain ⟨u, rfl, rx⟩ := vals1 r
  cases rx
  obtain ⟨its, rv, pt, hz⟩ := I.tuple hq
  refine call_set_tupI ns (I.ok.hd hc) (show s.heap.IsTuple p its.toArray from pt) (by simpa using rv.ints) (by unfold scanBound; omega) fun h' tk c R hcn k => ?_
  have fr := I.hok.fresh (Nat.le_refl s.heap.objs.size)
  exact ⟨.ref s.heap.objs.size, _, I.laid (t' := tk) (o := SetO X.w s.heap.objs.size (fun j => decide (j ∈ ns)) c) (fun b o e => k b o e) (Nat.le_refl _) (setO_new R), rfl, q _ c fr hcn⟩
end
end K96

/-! enumerate over a tuple. -/
namespace K96
open PySem PySem.Spec PyProof.Rows L2

/-- the tuple at a as it stands at each turn, each item in a new pair -/
def Itet (K : PySem.W.Frag) (a : Addr) : It where
  go i H := ∃ (xs : List V) (x : V), SqT K H a xs ∧ xs[i]? = some x
  yld i H v H' := ∃ T x, v = .ref T ∧ H T = none ∧ H' = upd H T (.tup [.int (i : Nat), x]) ∧ ∀ xs, SqT K H a xs → xs[i]? = some x
  stop i H := ∃ xs : List V, SqT K H a xs ∧ xs.length ≤ i
theorem turn_enumT {P : Program} {w : World} {K : PySem.W.Frag} {elts : List Expr} {kk : Nat} {tpos : Pos} (a e it : Addr) :
    Turn P w K (.Tuple elts kk tpos) (Itet K a) [e, it] e (fun i h => (∃ old, IsEnum h e it ((i : Nat) : Int) old) ∧ h.IsTupleIter it a i ∧ e ≠ it) where
  mem := by simp
  obj := fun i h st b hb => by
    obtain ⟨⟨old, he⟩, ⟨o, ho, hc, hd⟩, _⟩ := st
    have e' : b = e ∨ b = it := by simpa using hb
    rcases e' with z | z
    · rw [z]; exact ⟨_, he, fun v q => nomatch q⟩
    · rw [z]; exact ⟨o, ho, fun v q => by rw [hd] at q; cases q⟩
  keep := fun i h h' st k => let ⟨⟨old, he⟩, hi, hne⟩ := st; ⟨⟨old, k e (by simp) _ he⟩, hi.at fun o q => k it (by simp) o q, hne⟩
  item := by
    rintro X rfl rfl rfl hc i pins s σ H E I hf ⟨⟨old, he⟩, hit, hne⟩ ⟨xs, x, hq, hx⟩
    obtain ⟨its, rv, p, hz⟩ := I.tuple hq
    obtain ⟨u, hu, ru⟩ := rv.get hx
    have hel : e < s.heap.objs.size := Heap.lt_size he
    have hil : it < s.heap.objs.size := by obtain ⟨_, q, _⟩ := hit; exact Heap.lt_size q
    have ht : s.heap.IsTuple a its.toArray := p
    have nai : a ≠ it := by
      rintro rfl
      obtain ⟨o, h1, h2, _⟩ := ht
      obtain ⟨o', h3, h4, _⟩ := hit
      rw [h1] at h3
      cases h3
      rw [h2] at h4
      exact absurd h4 (by decide)
    have nea : e ≠ a := by
      rintro rfl
      obtain ⟨o, h1, h2, _⟩ := ht
      rw [show s.heap.get? e = _ from he] at h1
      cases h1
      exact absurd h2 (show ¬ Value.type "enumerate" = Value.type "tuple" by decide)
    have hlt : i < its.toArray.size := by rw [List.size_toArray]; exact (List.getElem?_eq_some_iff.mp hu).1
    refine wpAny_pyNext_enum_itemD (Draws.tuple (A := X.A.in1) (show X.A.in1.handled = none from I.ok.hd hc) it a nai its.toArray) he ⟨hit, ht⟩ hlt hne (by simp [hne, nea]) fun y h' tk hy ho hst hT hsz hk => ?_
    obtain rfl : y = u := by
      have : its[i]? = some y := by simpa using hy
      rw [hu] at this
      exact (Option.some.inj this).symm
    refine ⟨_, rfl, wpAny_letOwnedTupleGo_enum (s := { s with heap := h', toks := tk + 1 }) ho fun h'' he' sb => ?_⟩
    have hT2 : h''.get? s.heap.objs.size = some { cls := .type "tuple", data := .seq #[.int i tk, y] } := (sb.2 _ (Nat.ne_of_gt hel)).trans hT
    have new : ObjOk X.prog X.w (upd H s.heap.objs.size (.tup [.int (i : Nat), x])) h'' s.heap.objs.size (.tup [.int (i : Nat), x]) :=
      ⟨by show 2 ≤ sizeLine; decide, [.int i tk, y], .cons ⟨_, rfl⟩ (.cons ru .nil), ⟨_, hT2, rfl, _, rfl⟩⟩
    have I1 : Inv X pins σ (upd H s.heap.objs.size (.tup [.int (i : Nat), x])) { s with heap := h'', toks := tk + 1 } :=
      I.turnedNew (ch := [e, it]) (fun b ob hb q => (sb.2 b (fun z => hb (by simp [z]))).trans (hk b ob (fun z => hb (by simp [z])) (fun z => hb (by simp [z])) q)) hf (Nat.le_refl _) new
    refine ⟨.ref s.heap.objs.size, _, I1, rfl, ⟨_, x, rfl, I.hok.fresh (Nat.le_refl _), rfl, fun ys hy => by rw [I.tuple_inj hy hq]; exact hx⟩, ⟨⟨y, ?_⟩, hst.1.at fun o q => (sb.2 it (Ne.symm hne)).trans q, hne⟩, fun b hb => ?_⟩
    · have e1 : ((i + 1 : Nat) : Int) = (i : Int) + 1 := by omega
      rw [e1]; exact he'
    · have hb' : b < s.heap.objs.size := by
        have e' : b = e ∨ b = it := by simpa using hb
        rcases e' with z | z
        · rw [z]; exact hel
        · rw [z]; exact hil
      rw [upd_ne (Nat.ne_of_lt hb')]
      exact (hf b hb).1
  done := by
    rintro X rfl rfl rfl hc i pins s σ H E I hf ⟨⟨old, he⟩, hit, hne⟩ ⟨xs, hq, hx⟩
    obtain ⟨its, rv, p, hz⟩ := I.tuple hq
    obtain ⟨f0, f1, f2, f3, f4, f5⟩ := hf it (by simp)
    have hl := rv.length
    have hT : s.TypeIs (.ref e) "enumerate" := ⟨_, he, rfl⟩
    unfold pyNext
    refine wpAny_bind (wpAny_attempt (wpAny_callSpecial?_slot (name := Str.ofString "__next__") hT PySem.F.slot_enumerate_next
      (wpAny_call_entry PySem.F.slot_enumerate_next hT PySem.F.entry_enumerate_next ?_ (PySem.F.args_enumerate_next_1 _))))
    show wpAny _ _ (field (.ref e) 2 >>= _) _ _ _
    refine wpAny_bind (wpAny_field he rfl (x := .ref it) rfl ?_)
    refine wpAny_bind (wpAny_nextOf_tuple_end (show X.A.in1.handled = none from I.ok.hd hc) hit (show s.heap.IsTuple a its.toArray from p) (by simp; omega) fun h' x he' hx' => ?_)
    obtain ⟨o, ho, hc⟩ := hx'
    refine wpAny_bind (wpAny_isInstance (T := "StopIteration") (b := true) ⟨o, ho, hc⟩ isSubtype_stop ?_)
    exact wpAny_pure ⟨rfl, I.turned (t' := s.toks) (fun b o hb q => he' b o hb q) f0 f1 f3 f4 f5⟩
  self := fun A i s Q E st h => let ⟨⟨_, he⟩, _⟩ := st; wpAny_pyIter_enum he h
theorem meets_enumerate_newT (l : Addr) (o : Obj) (items : Array Value) :
    Meets (Builtin.«enumerate.__new__» ⟨[.type "enumerate", .ref l], []⟩) (fun _ R s => (s.heap.get? l = some o ∧ s.heap.IsTuple l items) ∧
      R (.ok (.ret (.ref (s.heap.push { cls := .type "tuple_iterator", data := .fields #[.ref l, .int 0 0] }).objs.size)))
        { s with heap := (s.heap.push { cls := .type "tuple_iterator", data := .fields #[.ref l, .int 0 0] }).push { cls := .type "enumerate", data := .fields #[.none, .bool false, .ref s.heap.objs.size, rawInt 0, .none, .none] } }) :=
  .of_wp fun prog w A R s h => by
    obtain ⟨hp, g, d, tk, os⟩ := s
    obtain ⟨⟨hl, hL⟩, h⟩ := h
    have hsub := sub_enumerate
    wp_walk using AutoSeq1.wpAny_loadPart' hl
    refine wpAny_stack_any fun st => wpAny_pure ?_
    split
    · rename_i c _ _ _ _ _
      cases (c == Value.type "enumerate")
      · wp_walk using AutoSeq1.wpAny_loadPart' hl, wpAny_pyIter_tuple hL
        exact ⟨_, rfl, h⟩
      · wp_walk using AutoSeq1.wpAny_loadPart' hl, wpAny_pyIter_tuple hL
        exact ⟨_, rfl, h⟩
    · wp_walk using AutoSeq1.wpAny_loadPart' hl, wpAny_pyIter_tuple hL
      exact ⟨_, rfl, h⟩
theorem call_enumerate_tuple {prog : Program} {w : World} {A : Around} {E : Value → Shared → Prop} {s : Shared} {l : Addr} {items : Array Value} {Q : Value → Shared → Prop} (hL : s.heap.IsTuple l items)
    (h : ∀ h', IsEnum h' (s.heap.objs.size + 1) s.heap.objs.size 0 .none → h'.IsTupleIter s.heap.objs.size l 0 → h'.objs.size = s.heap.objs.size + 2 →
      (∀ b o, s.heap.get? b = some o → h'.get? b = some o) → Q (.ref (s.heap.objs.size + 1)) { s with heap := h' }) :
    wpAny (model prog w) A (call (.type "enumerate") [.ref l]) Q E s := by
  obtain ⟨o, hl, hc⟩ := id hL
  refine callType_new PySem.F.called_enumerate (by decide) (PySem.F.typeCall_enumerate_1 _) (PySem.F.newCall_enumerate_1 _) (fun obj => PySem.F.args_object_init_2 obj _) PySem.F.entry_enumerate_new
    (meets_enumerate_newT l o items) ⟨⟨hl, hL⟩, ?_⟩
  have hz : (s.heap.push { cls := .type "tuple_iterator", data := .fields #[.ref l, .int 0 0] }).objs.size = s.heap.objs.size + 1 := Heap.size_push ..
  show _ ∧ _
  rw [hz]
  have he : IsEnum ((s.heap.push { cls := .type "tuple_iterator", data := .fields #[.ref l, .int 0 0] }).push
      { cls := .type "enumerate", data := .fields #[.none, .bool false, .ref s.heap.objs.size, rawInt 0, .none, .none] }) (s.heap.objs.size + 1) s.heap.objs.size 0 .none := by
    have := Heap.get?_push_size (s.heap.push { cls := .type "tuple_iterator", data := .fields #[.ref l, .int 0 0] })
      (o := { cls := .type "enumerate", data := .fields #[.none, .bool false, .ref s.heap.objs.size, rawInt 0, .none, .none] }) rfl
    rw [hz] at this; exact this
  refine ⟨⟨_, he, rfl⟩, h _ he ⟨_, Heap.get?_push_of_some _ (Heap.get?_push_size _ rfl), rfl, rfl⟩ (by rw [Heap.size_push, hz]) fun b o x => Heap.get?_push_of_some _ (Heap.get?_push_of_some _ x)⟩
def iEnumT (K : PySem.W.Frag) (ta : TA) : TI := fun σ H R => ta σ H fun vs H1 => ∃ a xs, vs = [.ref a] ∧ SqT K H1 a xs ∧ R (Itet K a) H1
theorem pi_enumT {X : Cx} {e : Expr} {ta : TA} {p pos tpos : Pos} {elts : List Expr} {kk : Nat} (hg : Gl X "enumerate") (hm : X.mg "enumerate" = none) (ha : PA X [e] ta) (hs : starEach [e] X.env = [(false, eval e X.env)] := by rfl) :
    PI X (.Tuple elts kk tpos) (.Call (.Name "enumerate" p) [e] [] pos) (iEnumT X.K ta) := by
  refine ⟨fun pins s σ H R I h => ?_⟩
  refine Call_ (ld_blt I hg hm boot_enumerate (PyProof.Rows.callWith_type1 (thn (ha.run pos pins s σ H _ I h) fun us s1 ⟨vs, H1, I1, r1, q1⟩ => ?_) hs rfl))
  obtain ⟨a, xs, ex, hq, q⟩ := q1
  subst ex
  obtain ⟨u, rfl, r⟩ := vals1 r1
  cases r
  obtain ⟨its, rv, p', hz⟩ := I1.tuple hq
  refine call_enumerate_tuple (show s1.heap.IsTuple a its.toArray from p') fun h' he hit hsz hk => wpAny_pyIter_enum he ?_
  have I2 : Inv X pins σ H1 { s1 with heap := h' } := I1.kept (t' := s1.toks) hk
  refine ⟨s1.heap.objs.size + 1, [s1.heap.objs.size + 1, s1.heap.objs.size], _, _, H1, rfl, I2, turn_enumT a (s1.heap.objs.size + 1) s1.heap.objs.size, ⟨⟨.none, he⟩, hit, Nat.succ_ne_self _⟩, fun b hb => ?_, q⟩
  have e' : b = s1.heap.objs.size + 1 ∨ b = s1.heap.objs.size := by simpa using hb
  have hle : s1.heap.objs.size ≤ b := by
    rcases e' with z | z
    · rw [z]; exact Nat.le_add_right _ _
    · rw [z]; exact Nat.le_refl _
  exact I1.fpOk hle (I1.hok.fresh hle)
theorem walk_enumT {K : PySem.W.Frag} {a : Addr} {xs : List V} : Walk (Itet K a) xs.length (fun H => SqT K H a xs) (YPair (fun i => some (.int (i : Nat))) (fun i => xs[i]?)) := by
  refine ⟨fun i _ hi q => ⟨xs, xs[i], q, by simp [hi]⟩, fun _ q => ⟨xs, q, Nat.le_refl _⟩, fun i H v H' _ q y => ?_⟩
  obtain ⟨T, x, h1, h2, h3, h4⟩ := y
  exact ⟨T, .int (i : Nat), x, h1, h2, h3, rfl, h4 xs q⟩
end K96

/-! The text by places, the facts of the module's names, how a def is told to its callers. -/
namespace K96
open PySem PySem.Spec PyProof.Rows L2

def top (i : Nat) : Stmt := PySem.Challenge.pw_shapeholes_k96_whole_bounds_of_holes.main.body.getD i (.Pass ⟨0, 0, 0, 0⟩)
/-- the built-ins that the program calls are still the built-ins -/
structure Nm (mg : Str → Option Value) : Prop where
  isinst : mg "isinstance" = none
  int : mg "int" = none
  bool : mg "bool" = none
  tuple : mg "tuple" = none
  list : mg "list" = none
  dict : mg "dict" = none
  set : mg "set" = none
  len : mg "len" = none
  all : mg "all" = none
  any : mg "any" = none
  zip : mg "zip" = none
  sorted : mg "sorted" = none
  range : mg "range" = none
  max : mg "max" = none
  min : mg "min" = none
  sum : mg "sum" = none
  enum : mg "enumerate" = none
/-- the def x of the text st stands at the module's name x -/
def Def (K : PySem.W.Frag) (mg : Str → Option Value) (x : Str) (st : Stmt) : Prop := ∃ f fd, Fun K x x st f fd ∧ mg x = some (.ref f)
/-- the module's name x is a def that keeps the promise sp -/
structure Cal (P : Program) (w : World) (K : PySem.W.Frag) (mg : Str → Option Value) (base : Heap) (x : Str) (k : Nat) (ps : List Str) (sp : Sp) : Prop where
  ex : ∃ f fd, FnOk P w K mg base CX0 k f fd ps sp ∧ mg x = some (.ref f) ∧ PySem.W.keepIn K (.ref f) = true ∧ Binds K fd ps []
section
variable {P : Program} {w : World} {K : PySem.W.Frag} {mg : Str → Option Value} {base : Heap}
/-- THE RULE: a def's body as a term, its reading -/
theorem Def.ok {x : Str} {st : Stmt} {N ps : List Str} {k : Nat} {sp : Sp} (D : Def K mg x st) (S : FnScope N ps (defScope st)) (len : ∀ vs H Q E, sp vs H Q E → vs.length = ps.length)
    (hb : ∀ (kV doc pm : Value) (an : Option Addr) (cdv ct : Value) (us : List Value), us.length = ps.length → bindArgs (PySem.W.fnOf x x (defArgs st) (defBody st) (defScope st) .none kV doc pm an cdv ct) ⟨us, []⟩ = pure (ps.zip us))
    (hbody : ∀ (f : Addr) (cdv : Value) (A : Around) (outer : List Env) (s : Shared) (H : Hp) (vs : List V) (Q : VK) (E : XK), Room k (A.deeper (envOfC x (defScope st) s.heap.objs.size f cdv)) → sp vs H Q E →
      ∃ t, PSs (cxOf CX0 P w K mg base N x (defScope st) f cdv A outer s H E).nox (defBody st) t ∧ t { nx := fun _ H' => Q .non H', rt := Q } (start N vs) H) : Cal P w K mg base x (k + 1) ps sp := by
  obtain ⟨f, fd, F, g⟩ := D
  exact ⟨f, fd, F.ok S len fun cdv A outer s H vs Q E hr h => hbody f cdv A outer s H vs Q E hr h, g, F.kp, F.binds hb⟩
theorem Cal.mono {x : Str} {k j : Nat} {ps : List Str} {sp : Sp} (c : Cal P w K mg base x k ps sp) (h : k ≤ j) : Cal P w K mg base x j ps sp := by
  obtain ⟨f, fd, G, r⟩ := c.ex
  exact ⟨f, fd, G.mono h, r⟩
end
/-- at a stands a tracked tuple of the ints x -/
abbrev TI (H : Hp) (a : Addr) (x : List Int) : Prop := H a = some (.tup (x.map V.int))
/-- v is such a tuple -/
def TV (H : Hp) (v : V) (x : List Int) : Prop := ∃ a, v = .ref a ∧ TI H a x
theorem TV.same {H H' : Hp} (e : Same H H') {v : V} {x : List Int} (h : TV H v x) : TV H' v x := by
  obtain ⟨a, e1, e2⟩ := h
  exact ⟨a, e1, e _ _ e2⟩
/-- the values xs are such tuples, one for each of L -/
abbrev TVs (H : Hp) (xs : List V) (L : List (List Int)) : Prop := Paired (TV H) xs L
theorem TVs.same {H H' : Hp} (e : Same H H') {xs : List V} {L : List (List Int)} (h : TVs H xs L) : TVs H' xs L := Paired.mapP h fun _ _ z => z.same e
theorem same_upd {H : Hp} {p : Addr} {o : HO} (h : H p = none) : Same H (upd H p o) := fun b u e => by
  rw [upd_ne (ne_of_none e h)]
  exact e
theorem Same.upd' {H H1 : Hp} {p : Addr} {o : HO} (s : Same H H1) (h : H1 p = none) : Same H (upd H1 p o) := s.trans (same_upd h)
theorem room_u {k : Nat} {A : Around} (hr : Room k A) : A.units + 64 < cLine := hr.units
end K96

/-! checks: is_integer, is_in, is_list. -/
namespace K96
open PySem PySem.Spec PyProof.Rows L2
section
variable {P : Program} {w : World} {K : PySem.W.Frag} {mg : Str → Option Value} {base : Heap}

def spIsInteger : Sp := fun vs H Q _ => ∃ n : Int, vs = [.int n] ∧ Q (.bl true) H
theorem sc_is_integer : FnScope ["value"] ["value"] (defScope (top 1)) := ⟨rfl, rfl, rfl, by decide +kernel, rfl, by decide +kernel, by decide +kernel⟩
theorem ok_is_integer (N : Nm mg) (D : Def K mg "is_integer" (top 1)) : Cal P w K mg base "is_integer" 1 ["value"] spIsInteger := by
  refine D.ok sc_is_integer (fun vs H Q E h => ?_) (fun _ _ _ _ _ _ us hl => match us, hl with | [_], _ => rfl) (fun f cdv A outer s H vs Q E hr h => ?_)
  · obtain ⟨n, rfl, _⟩ := h
    rfl
  · obtain ⟨n, rfl, q⟩ := h
    refine ⟨_, pss_one (ps_ret (pe_and (pe_callB call_isi (by rfl) N.isinst (by decide +kernel) (pa_cons (pv 0) (pa_cons (pe_bltn (v := .ty "int") (by rfl) N.int boot_int rfl) pa_nil)))
      (pe_one (pe_not (pe_callB call_isi (by rfl) N.isinst (by decide +kernel) (pa_cons (pv 0) (pa_cons (pe_bltn (v := .ty "bool") (by rfl) N.bool (by decide +kernel) rfl) pa_nil))))))), ?_⟩
    refine ⟨_, rfl, _, _, _, _, true, rfl, .ty "int", .base (.int n), kit_ty (by decide +kernel), true, rfl, ?_⟩
    refine ⟨_, rfl, _, _, _, _, false, rfl, .ty "bool", .base (.int n), kit_ty (by decide +kernel), false, rfl, q⟩
end
end K96

/-! is_in, is_list, is_ascending, is_simplex. -/
namespace K96
open PySem PySem.Spec PyProof.Rows L2
section
variable {P : Program} {w : World} {K : PySem.W.Frag} {mg : Str → Option Value} {base : Heap}

def spIsIn : Sp := fun vs H Q _ => ∃ n a b : Int, vs = [.int n, .int a, .int b] ∧ Q (.bl (decide (a ≤ n) && decide (n ≤ b))) H
theorem sc_is_in : FnScope ["value", "least", "most"] ["value", "least", "most"] (defScope (top 2)) := ⟨rfl, rfl, rfl, by decide +kernel, rfl, by decide +kernel, by decide +kernel⟩
theorem ok_is_in (D : Def K mg "is_in" (top 2)) (c1 : Cal P w K mg base "is_integer" 1 ["value"] spIsInteger) : Cal P w K mg base "is_in" 2 ["value", "least", "most"] spIsIn := by
  obtain ⟨f1, fd1, G1, g1, k1, b1⟩ := c1.ex
  refine D.ok sc_is_in (fun vs H Q E h => ?_) (fun _ _ _ _ _ _ us hl => match us, hl with | [_, _, _], _ => rfl) (fun f cdv A outer s H vs Q E hr h => ?_)
  · obtain ⟨n, a, b, rfl, _⟩ := h
    rfl
  · obtain ⟨n, a, b, rfl, q⟩ := h
    refine ⟨_, pss_one (ps_ret (pe_and (pe_call G1 hr (by rfl) g1 k1 b1 .nil pass0 (pa_cons (pv 0) pa_nil)) (pe_one (pe_chain op_le op_le (pv 1) (pv 0) (pv 2))))), ?_⟩
    refine ⟨_, rfl, n, rfl, true, rfl, ?_⟩
    refine iteT ⟨_, rfl, _, rfl, _, _, rfl, rfl, _, rfl, ?_⟩
    by_cases h1 : a ≤ n
    · rw [decide_eq_true h1] at q ⊢
      refine iteT ⟨_, rfl, _, _, rfl, rfl, ?_⟩
      simpa using q
    · rw [decide_eq_false h1] at q ⊢
      refine iteF ?_
      simpa using q

/-- a tuple at a, read -/
abbrev TupR (H : Hp) (a : Addr) (xs : List V) : Prop := Rd H a (.tup xs)
theorem TupR.seq {K : PySem.W.Frag} {H : Hp} {a : Addr} {xs : List V} (h : TupR H a xs) : SqT K H a xs := .inl h
theorem TupR.tyx {K : PySem.W.Frag} {H : Hp} {a : Addr} {xs : List V} (h : TupR H a xs) : TyX K H (.ref a) (.type "tuple") := by
  rcases h with h | ⟨o, h⟩
  · exact .base (.tup h)
  · exact .fTuple h
theorem TupR.same {H H' : Hp} (e : Same H H') {a : Addr} {xs : List V} (h : TupR H a xs) : TupR H' a xs := by
  rcases h with h | ⟨o, h⟩
  · exact .inl (e _ _ h)
  · exact .inr ⟨o, e _ _ h⟩
theorem PlT.rd {H : Hp} {a : Addr} {xs : List V} (h : PlT H a xs) : TupR H a xs := by
  obtain ⟨o, _, _, h⟩ := h
  exact .inr ⟨o, h⟩
def spIsList : Sp := fun vs H Q _ => ∃ (p : Addr) (xs : List V) (a b : Int), vs = [.ref p, .int a, .int b] ∧ TupR H p xs ∧ Q (.bl (decide (a ≤ xs.length) && decide ((xs.length : Int) ≤ b))) H
theorem sc_is_list : FnScope ["value", "least", "most"] ["value", "least", "most"] (defScope (top 3)) := ⟨rfl, rfl, rfl, by decide +kernel, rfl, by decide +kernel, by decide +kernel⟩
theorem ok_is_list (N : Nm mg) (D : Def K mg "is_list" (top 3)) : Cal P w K mg base "is_list" 1 ["value", "least", "most"] spIsList := by
  refine D.ok sc_is_list (fun vs H Q E h => ?_) (fun _ _ _ _ _ _ us hl => match us, hl with | [_, _, _], _ => rfl) (fun f cdv A outer s H vs Q E hr h => ?_)
  · obtain ⟨p, xs, a, b, rfl, _⟩ := h
    rfl
  · obtain ⟨p, xs, a, b, rfl, ht, q⟩ := h
    refine ⟨_, pss_one (ps_ret (pe_and (pe_callB call_isi (by rfl) N.isinst (by decide +kernel) (pa_cons (pv 0) (pa_cons (pe_bltn (v := .ty "tuple") (by rfl) N.tuple (by decide +kernel) rfl) pa_nil)))
      (pe_one (pe_chain op_le op_le (pv 1) (pe_callB call_len_seq (by rfl) N.len PySem.boot_len (pa_cons (pv 0) pa_nil)) (pv 2))))), ?_⟩
    refine ⟨_, rfl, _, _, _, _, true, rfl, .ty "tuple", ht.tyx, kit_ty (by decide +kernel), true, rfl, ?_⟩
    refine iteT ⟨_, rfl, _, rfl, _, _, rfl, .inr ht.seq, _, _, rfl, rfl, _, rfl, ?_⟩
    by_cases h1 : a ≤ xs.length
    · rw [decide_eq_true h1] at q ⊢
      refine iteT ⟨_, rfl, _, _, rfl, rfl, ?_⟩
      simpa using q
    · rw [decide_eq_false h1] at q ⊢
      refine iteF ?_
      simpa using q
end
end K96

/-! Comprehensions: what is made so far. -/
namespace K96
open PySem PySem.Spec PyProof.Rows L2

theorem seqT {K : PySem.W.Frag} {H H' : Hp} {a : Addr} {xs : List V} (e : Same H H') (h : SqT K H a xs) : SqT K H' a xs := by
  rcases h with h | h
  · exact .inl (TupR.same e h)
  · exact .inr h
/-- all but what stands at D is as it was -/
def But (D : Addr) (H H' : Hp) : Prop := ∀ b o, b ≠ D → H b = some o → H' b = some o
theorem But.of_same {D : Addr} {H H' : Hp} (s : Same H H') : But D H H' := fun b o _ e => s b o e
theorem But.upd {D : Addr} {H : Hp} {o : HO} : But D H (L2.upd H D o) := fun b u n e => by rw [upd_ne n]; exact e
theorem But.trans {D : Addr} {H H1 H2 : Hp} (a : But D H H1) (b : But D H1 H2) : But D H H2 := fun c o n e => b c o n (a c o n e)
theorem TV.but {D : Addr} {H H' : Hp} {u : HO} {v : V} {x : List Int} (h : TV H v x) (hD : H D = some u) (hu : ∀ xs, u ≠ .tup xs) (s : But D H H') : TV H' v x := by
  obtain ⟨a, e1, e2⟩ := h
  refine ⟨a, e1, s a _ ?_ e2⟩
  rintro rfl
  have e3 : H a = some (.tup (x.map V.int)) := e2
  rw [hD] at e3
  exact hu _ (Option.some.inj e3)
theorem TVs.but {D : Addr} {H H' : Hp} {u : HO} {xs : List V} {L : List (List Int)} (h : TVs H xs L) (hD : H D = some u) (hu : ∀ xs, u ≠ .tup xs) (s : But D H H') : TVs H' xs L := Paired.mapP h fun _ _ z => z.but hD hu s
/-- the new list at D holds acc, of which R is known at the turn i; what stood in H1 stands -/
def GP (H1 : Hp) (D : Addr) (R : Nat → List V → Hp → Prop) (i : Nat) (H : Hp) : Prop := Same H1 H ∧ ∃ acc, H D = some (.lst acc) ∧ R i acc H
/-- R speaks of nothing at D -/
def Off (D : Addr) (R : Nat → List V → Hp → Prop) : Prop := ∀ i acc u H H', R i acc H → H D = some (.lst u) → But D H H' → R i acc H'
theorem gp_start {H1 : Hp} {D : Addr} {R : Nat → List V → Hp → Prop} (hD : H1 D = none) (h : R 0 [] (upd H1 D (.lst []))) : GP H1 D R 0 (upd H1 D (.lst [])) := ⟨same_upd hD, [], upd_same, h⟩
theorem gp_grow {H1 H H4 : Hp} {D : Addr} {R : Nat → List V → Hp → Prop} {i : Nat} {acc : List V} {y : V} (hoff : Off D R) (hn : H1 D = none) (s1 : Same H1 H) (hD : H D = some (.lst acc)) (s2 : Same H H4) (hl : acc.length < sizeLine) (r : R (i + 1) (acc ++ [y]) H4) :
    ∃ acc, H4 D = some (.lst acc) ∧ acc.length < sizeLine ∧ GP H1 D R (i + 1) (upd H4 D (.lst (acc ++ [y]))) := by
  have h4 := s2 D _ hD
  refine ⟨acc, h4, hl, fun b o e => ?_, _, upd_same, hoff _ _ _ _ _ r h4 But.upd⟩
  rw [upd_ne (ne_of_none e hn)]
  exact s2 b o (s1 b o e)
theorem gp_skip {H1 H H4 : Hp} {D : Addr} {R : Nat → List V → Hp → Prop} {i : Nat} {acc : List V} (s1 : Same H1 H) (hD : H D = some (.lst acc)) (s2 : Same H H4) (r : R (i + 1) acc H4) : GP H1 D R (i + 1) H4 := ⟨s1.trans s2, acc, s2 D _ hD, r⟩
/-- values without heap -/
theorem off_pure {D : Addr} {f : Nat → List V → Prop} : Off D (fun i acc _ => f i acc) := fun _ _ _ _ _ h _ _ => h
theorem off_tvs {D : Addr} {f : Nat → List (List Int) → Prop} : Off D (fun i acc H => ∃ L, TVs H acc L ∧ f i L) := fun _ _ _ _ _ ⟨L, h, q⟩ hD s => ⟨L, h.but hD (fun _ z => nomatch z) s, q⟩
theorem walk_zipT {K : PySem.W.Frag} {a b : Addr} {xs ys : List V} {n : Nat} (hn : n = min xs.length ys.length) : Walk (RZ.ItzT K a b) n (fun H => SqT K H a xs ∧ SqT K H b ys) (YPair (fun i => xs[i]?) (fun i => ys[i]?)) := by
  subst hn
  refine ⟨fun i H hi q => ?_, fun H q => ⟨xs, ys, q.1, q.2, by omega⟩, fun i H v H' _ q y => ?_⟩
  · exact ⟨xs, ys, xs[i]'(by omega), ys[i]'(by omega), q.1, q.2, by simp, by simp⟩
  · obtain ⟨T, x, z, h1, h2, h3, h4, h5⟩ := y
    exact ⟨T, x, z, h1, h2, h3, h4 xs q.1, h5 ys q.2⟩
theorem small_line {n : Nat} (h : n ≤ 1000000) : n < sizeLine := by rw [sizeLine_eq]; omega
theorem ints_at {x : List Int} {i : Nat} {v : V} (h : (x.map V.int)[i]? = some v) : ∃ z, x[i]? = some z ∧ v = .int z := by
  rw [List.getElem?_map, Option.map_eq_some_iff] at h
  obtain ⟨z, hz, e⟩ := h
  exact ⟨z, hz, e.symm⟩
theorem tvs_at {H : Hp} {xs : List V} {L : List (List Int)} (h : TVs H xs L) {i : Nat} {v : V} (e : xs[i]? = some v) : ∃ x, L[i]? = some x ∧ TV H v x := paired_get h e
theorem tvs_get {H : Hp} {xs : List V} {L : List (List Int)} (h : TVs H xs L) {i : Nat} {x : List Int} (e : L[i]? = some x) : ∃ v, xs[i]? = some v ∧ TV H v x := by
  have hl := Paired.length h
  have hi : i < xs.length := by rw [hl]; exact (List.getElem?_eq_some_iff.mp e).1
  obtain ⟨y, hy, t⟩ := tvs_at h (List.getElem?_eq_getElem hi)
  rw [e] at hy
  cases hy
  exact ⟨_, List.getElem?_eq_getElem hi, t⟩
theorem tvs_snoc {H : Hp} {xs : List V} {L : List (List Int)} {v : V} {x : List Int} (h : TVs H xs L) (t : TV H v x) : TVs H (xs ++ [v]) (L ++ [x]) := Paired.snoc h t
theorem take_snoc {α : Type} {l : List α} {i : Nat} {x : α} (h : l[i]? = some x) : l.take (i + 1) = l.take i ++ [x] := by rw [List.take_add_one, h]; rfl
end K96
namespace K96
open PySem PySem.Spec PyProof.Rows L2
theorem cut_from {xs : List V} {k : Nat} (h : k ≤ xs.length) : cutV xs (some (k : Int)) none = xs.drop k := by
  unfold cutV
  rw [HT.sIx_nat, HT.sIx_none, Nat.min_eq_left h, List.take_of_length_le]
  rw [List.length_drop]
  omega
theorem cut_to {xs : List V} {k : Nat} (h : k ≤ xs.length) : cutV xs none (some (k : Int)) = xs.take k := by
  unfold cutV
  rw [HT.sIx_nat, HT.sIx_none, Nat.min_eq_left h]
  rfl
theorem whole_from {n k : Nat} : (HT.sIx n 0 (some (k : Int)) = 0 ∧ HT.sIx n n none = n) ↔ (k = 0 ∨ n = 0) := by
  rw [HT.sIx_nat, HT.sIx_none]
  omega
theorem whole_to {n k : Nat} : (HT.sIx n 0 none = 0 ∧ HT.sIx n n (some (k : Int)) = n) ↔ n ≤ k := by
  rw [HT.sIx_nat, HT.sIx_none]
  omega
end K96
namespace K96
open PySem PySem.Spec PyProof.Rows L2
theorem paired_app {α β : Type} {R : α → β → Prop} {l1 l2 : List α} {m1 m2 : List β} (h1 : Paired R l1 m1) (h2 : Paired R l2 m2) : Paired R (l1 ++ l2) (m1 ++ m2) := by
  induction h1 with
  | nil => exact h2
  | cons h t ih => exact .cons h ih
theorem paired_drop {α β : Type} {R : α → β → Prop} : ∀ (n : Nat) {l : List α} {m : List β}, Paired R l m → Paired R (l.drop n) (m.drop n)
  | 0, _, _, h => h
  | _ + 1, _, _, .nil => .nil
  | n + 1, _, _, .cons _ t => paired_drop n t
theorem paired_take {α β : Type} {R : α → β → Prop} : ∀ (n : Nat) {l : List α} {m : List β}, Paired R l m → Paired R (l.take n) (m.take n)
  | 0, _, _, _ => .nil
  | _ + 1, _, _, .nil => .nil
  | n + 1, _, _, .cons h t => .cons h (paired_take n t)
end K96
/-! Rules whose readings speak of the written part, told by its name (a comprehension's block). -/
namespace K96
open PySem PySem.Spec PyProof.Rows L2
section
variable {X : Cx} {K : PySem.W.Frag}
theorem pa_starK {e : Expr} {es : List Expr} {te : TE} {t : TA} {p : Pos} (hK : X.K = K) (he : PE X e te) (hr : PA X es t) (hs : starEach (.Starred e p :: es) X.env = (true, eval e X.env) :: starEach es X.env := by rfl) : PA X (.Starred e p :: es) (StX.tStar K te t) := by
  subst hK
  exact StX.pa_star he hr hs
theorem ix_listK (hK : X.K = K) : IxR X (rIxL K) := by subst hK; exact ix_list
theorem ix_tupK (hK : X.K = K) : IxR X (rIxT K) := by subst hK; exact ix_tup
theorem sl_listK (hK : X.K = K) : SlR X (rSlL K) := by subst hK; exact sl_list
theorem sl_tupK (hK : X.K = K) : SlR X (rSlA K) := by subst hK; exact sl_tupA
theorem op_catK (hK : X.K = K) : OpR X (binaryOp .Add) (rCatA K) := by subst hK; exact op_catA
theorem op_inK (hK : X.K = K) (hu : X.A.units + 65 < cLine) : OpR X (compareOp .In) (rInD K) := by subst hK; exact op_inD hu
theorem op_notInK (hK : X.K = K) (hu : X.A.units + 65 < cLine) : OpR X (compareOp .NotIn) (rNotInD K) := by subst hK; exact op_notInD hu
theorem op_eqK (hK : X.K = K) (hu : X.A.units + 64 < cLine) : OpR X (compareOp .Eq) (rEqD K) := by subst hK; exact op_eqD hu
theorem op_neK (hK : X.K = K) (hu : X.A.units + 64 < cLine) : OpR X (compareOp .NotEq) (rNeD K) := by subst hK; exact op_neD hu
theorem op_notInSK (hK : X.K = K) : OpR X (compareOp .NotIn) (rIn K true) := by subst hK; exact op_notIn_seq
theorem call_lenK (hK : X.K = K) : CallR X (.builtin "len") (fun xs H Q => ∃ p ys, xs = [.ref p] ∧ (SqL K H p ys ∨ SqT K H p ys) ∧ Q (.int ys.length) H) := by subst hK; exact call_len_seq
theorem call_tupleK (hK : X.K = K) : CallR X (.type "tuple") (fun xs H Q => ∃ p ys, xs = [.ref p] ∧ ((SqL K H p ys ∧ ∀ l, H l = none → Q (.ref l) (upd H l (.tup ys))) ∨ (SqT K H p ys ∧ Q (.ref p) H))) := by subst hK; exact call_tuple_of
theorem cr_sortIK (hK : X.K = K) : CallR X (.builtin "sorted") (rSortedI K) := by subst hK; exact cr_sortedI
theorem cr_setK (hK : X.K = K) (hc : X.calm = true) : CallR X (.type "set") (rSetI K X.w) := by subst hK; exact cr_setI hc
end
end K96

/-! is_ascending, is_simplex, of what is a simplex. -/
namespace K96
open PySem PySem.Spec PyProof.Rows L2

/-- ascending ints from 0 to 30, one to eight of them -/
structure Asc (x : List Int) : Prop where
  lo : ∀ v ∈ x, 0 ≤ v
  hi : ∀ v ∈ x, v ≤ 30
  up : x.Pairwise (· < ·)
  ne : 1 ≤ x.length
  few : x.length ≤ 8
theorem Asc.next {x : List Int} (h : Asc x) {i : Nat} {a b : Int} (ha : x[i]? = some a) (hb : x[i + 1]? = some b) : a < b := by
  have q := List.pairwise_iff_getElem.mp h.up
  obtain ⟨h1, e1⟩ := List.getElem?_eq_some_iff.mp ha
  obtain ⟨h2, e2⟩ := List.getElem?_eq_some_iff.mp hb
  have := q i (i + 1) h1 h2 (by omega)
  rwa [e1, e2] at this
section
variable {P : Program} {w : World} {K : PySem.W.Frag} {mg : Str → Option Value} {base : Heap}

def spIsAsc : Sp := fun vs H Q _ => ∃ (p : Addr) (x : List Int), vs = [.ref p, .int 1, .int 8] ∧ TI H p x ∧ Asc x ∧ ∀ H', Same H H' → Q (.bl true) H'
abbrev n_is_asc : List Str := ["value", "least", "most", "vertex", "one", "other"]
theorem sc_is_asc : FnScope n_is_asc ["value", "least", "most"] (defScope (top 16)) := ⟨rfl, rfl, rfl, by decide +kernel, rfl, by decide +kernel, by decide +kernel⟩
theorem ok_is_asc (N : Nm mg) (D : Def K mg "is_ascending" (top 16)) (gV : ∃ t, mg "MOST_VERTEX" = some (.int 30 t)) (c1 : Cal P w K mg base "is_list" 1 ["value", "least", "most"] spIsList)
    (c2 : Cal P w K mg base "is_in" 2 ["value", "least", "most"] spIsIn) : Cal P w K mg base "is_ascending" 3 ["value", "least", "most"] spIsAsc := by
  obtain ⟨f1, fd1, G_is_list, g_is_list, k_is_list, b_is_list⟩ := c1.ex
  obtain ⟨f2, fd2, G_is_in, g_is_in, k_is_in, b_is_in⟩ := c2.ex
  obtain ⟨tV, gV⟩ := gV
  refine D.ok sc_is_asc (fun vs H Q E h => ?_) (fun _ _ _ _ _ _ us hl => match us, hl with | [_, _, _], _ => rfl) (fun f cdv A outer s H vs Q E hr h => ?_)
  · obtain ⟨p, x, rfl, _⟩ := h
    rfl
  · obtain ⟨p, x, rfl, hp, hx, q⟩ := h
    have hr1 : Room 1 _ := hr.mono (by decide)
    refine ⟨_, pss_cons (ps_if (PW.pt (pw_or (pt_not (pt_val (pe_call G_is_list hr1 (by rfl) g_is_list k_is_list b_is_list .nil pass0 (pa_cons (pv 0) (pa_cons (pv 1) (pa_cons (pv 2) pa_nil)))))) (pw_or1 (pt_not (pt_val (pe_callB (cr_all rfl) (by rfl) N.all (by decide +kernel) (pa_cons (pe_lc (own := [("vertex", 3)]) (g := gName 3) (tt := tYes) rfl sc_is_asc.nd (pi_tup (pv 0)) (blkOk_by (N := n_is_asc) (sc := defScope (top 16)) (by decide +kernel)) (fun _ _ _ _ _ => (pg_name (i := 3) sc_is_asc.nd rfl (Or.inl rfl))) (fun _ _ _ _ _ => pts_nil) (fun _ _ _ _ _ => by exact (pe_call G_is_in hr (by rfl) g_is_in k_is_in b_is_in .nil pass0 (pa_cons (pv 3) (pa_cons pe_int (pa_cons (pe_glob (v := .int 30) (by rfl) gV ⟨_, rfl⟩) pa_nil)))))) pa_nil))))))) (pss_one (ps_ret pe_bl)) pss_nil)
      (pss_one (ps_ret (pe_callB (cr_all rfl) (by rfl) N.all (by decide +kernel) (pa_cons (pe_lc (own := [("one", 4), ("other", 5)]) (g := gTup K 2 (gCons (gName 4) (gCons (gName 5) gNil))) (tt := tYes) rfl sc_is_asc.nd (RZ.pi_zipA (by rfl) N.zip (pa_cons (pv 0) (pa_cons (pe_slice sl_tupA (pv 0) (po_some pe_int) po_none) pa_nil))) (blkOk_by (N := n_is_asc) (sc := defScope (top 16)) (by decide +kernel)) (fun _ _ _ _ _ => (pg_tup rfl (pgs_cons (pg_name (i := 4) sc_is_asc.nd rfl (Or.inl rfl)) (pgs_cons (pg_name (i := 5) sc_is_asc.nd rfl (Or.inl rfl)) pgs_nil)))) (fun _ _ _ _ _ => pts_nil) (fun _ _ _ _ _ => by exact (pe_cmpR op_lt (pv 4) (pv 5) (nomark _)))) pa_nil)))), ?_⟩
    have hS : SqT K H p (x.map V.int) := SqT.of hp
    have h1 := hx.ne
    have h8 := hx.few
    -- is_list
    refine ⟨_, rfl, _, rfl, _, rfl, p, x.map V.int, 1, 8, rfl, .inl hp, _, rfl, ?_⟩
    have e1 : (decide ((1 : Int) ≤ ((x.map V.int).length : Int)) && decide (((x.map V.int).length : Int) ≤ 8)) = true := by
      rw [List.length_map, decide_eq_true (by omega), decide_eq_true (by omega)]; rfl
    rw [e1]
    refine iteF ?_
    -- the vertices
    refine ⟨_, rfl, p, rfl, ⟨_, hS⟩, fun D1 hD1 => lc_it walk_tup (GP H D1 (fun i acc _ => acc = (List.replicate i true).map V.bl)) (gp_start hD1 rfl) (fun i H2 _ h2 => seqT h2.1 hS) ?_ ?_⟩
    · rintro i v H2 _ hi ⟨s1, acc, hD2, racc⟩ ⟨rfl, hv⟩
      obtain ⟨z, hz, rfl⟩ := ints_at hv
      have hm : z ∈ x := List.mem_of_getElem? hz
      refine ⟨rfl, _, rfl, z, 0, 30, rfl, ?_⟩
      have e2 : (decide (0 ≤ z) && decide (z ≤ 30)) = true := by rw [decide_eq_true (hx.lo z hm), decide_eq_true (hx.hi z hm)]; rfl
      rw [e2]
      refine gp_grow off_pure hD1 s1 hD2 (Same.refl _) ?_ ?_
      · rw [racc, List.length_map, List.length_replicate]
        rw [List.length_map] at hi
        exact small_line (by omega)
      · rw [racc, List.replicate_succ', List.map_append]; rfl
    rintro H2 ⟨s1, acc, hD2, racc⟩
    subst racc
    refine ⟨D1, _, rfl, .inl (.inl hD2), ?_⟩
    have e3 : (List.replicate (x.map V.int).length true).all id = true := by simp
    refine ⟨_, rfl, ?_⟩
    rw [e3]
    refine iteF ?_
    -- the order
    have hp2 : TI H2 p x := s1 _ _ hp
    refine ⟨_, rfl, _, rfl, 1, rfl, p, x.map V.int, rfl, SqT.of hp2, fun z => ?_, fun z t ht => ?_⟩
    · have := whole_from (k := 1).mp z
      rw [List.length_map] at this
      omega
    · have ec : cutV (x.map V.int) (some 1) none = (x.drop 1).map V.int := by
        rw [show (1 : Int) = ((1 : Nat) : Int) from rfl, cut_from (by rw [List.length_map]; exact h1), List.map_drop]
      rw [ec]
      have s2 : Same H (upd H2 t (.tup ((x.drop 1).map V.int))) := Same.upd' s1 ht
      refine ⟨p, t, x.map V.int, (x.drop 1).map V.int, rfl, .inr ⟨SqT.of (s2 _ _ hp), SqT.of upd_same, fun D2 hD2 => ?_⟩⟩
      refine lc_it (walk_zipT (n := x.length - 1) (by simp)) (GP _ D2 (fun i acc _ => acc = (List.replicate i true).map V.bl)) (gp_start hD2 rfl) (fun i H3 _ h3 => ⟨seqT h3.1 (SqT.of (s2 _ _ hp)), seqT h3.1 (SqT.of upd_same)⟩) ?_ ?_
      · rintro i v H3 _ hi ⟨s3, acc, hD3, racc⟩ ⟨T, a, b, rfl, hT, rfl, ha, hb⟩
        obtain ⟨za, hza, rfl⟩ := ints_at ha
        obtain ⟨zb, hzb, rfl⟩ := ints_at hb
        rw [List.getElem?_drop, Nat.add_comm] at hzb
        have lt := hx.next hza hzb
        refine ⟨T, _, rfl, SqT.of upd_same, rfl, _, _, rfl, _, _, rfl, rfl, ?_⟩
        refine ⟨rfl, _, rfl, _, rfl, za, zb, rfl, rfl, ?_⟩
        dsimp only
        rw [decide_eq_true lt]
        refine gp_grow off_pure hD2 s3 hD3 (same_upd hT) ?_ ?_
        · rw [racc, List.length_map, List.length_replicate]
          exact small_line (by omega)
        · rw [racc, List.replicate_succ', List.map_append]; rfl
      · rintro H3 ⟨s3, acc, hD3, racc⟩
        subst racc
        refine ⟨D2, _, rfl, .inl (.inl hD3), ?_⟩
        have e4 : (List.replicate (x.length - 1) true).all id = true := by simp
        rw [e4]
        exact q H3 (s2.trans s3)

def spIsSimplex : Sp := fun vs H Q _ => ∃ (p : Addr) (x : List Int), vs = [.ref p] ∧ TI H p x ∧ Asc x ∧ ∀ H', Same H H' → Q (.bl true) H'
abbrev n_is_simplex : List Str := ["value"]
theorem sc_is_simplex : FnScope n_is_simplex ["value"] (defScope (top 17)) := ⟨rfl, rfl, rfl, by decide +kernel, rfl, by decide +kernel, by decide +kernel⟩
theorem ok_is_simplex (D : Def K mg "is_simplex" (top 17)) (gL : ∃ t, mg "MOST_LENGTH" = some (.int 8 t)) (c1 : Cal P w K mg base "is_ascending" 3 ["value", "least", "most"] spIsAsc) : Cal P w K mg base "is_simplex" 4 ["value"] spIsSimplex := by
  obtain ⟨f1, fd1, G_is_ascending, g_is_ascending, k_is_ascending, b_is_ascending⟩ := c1.ex
  obtain ⟨tL, gL⟩ := gL
  refine D.ok sc_is_simplex (fun vs H Q E h => ?_) (fun _ _ _ _ _ _ us hl => match us, hl with | [_], _ => rfl) (fun f cdv A outer s H vs Q E hr h => ?_)
  · obtain ⟨p, x, rfl, _⟩ := h
    rfl
  · obtain ⟨p, x, rfl, hp, hx, q⟩ := h
    refine ⟨_, pss_one (ps_ret (pe_call G_is_ascending hr (by rfl) g_is_ascending k_is_ascending b_is_ascending .nil pass0 (pa_cons (pv 0) (pa_cons pe_int (pa_cons (pe_glob (v := .int 8) (by rfl) gL ⟨_, rfl⟩) pa_nil))))), ?_⟩
    exact ⟨_, rfl, p, x, rfl, hp, hx, q⟩
end
end K96

/-! Plain mathematics: all parts of a simplex. -/
namespace K96
def ptsF (x : List Int) : List (List Int) := x.foldl (fun acc v => acc ++ acc.map fun k => k ++ [v]) [[]]
theorem ptsF_snoc (x : List Int) (v : Int) : ptsF (x ++ [v]) = ptsF x ++ (ptsF x).map fun k => k ++ [v] := by
  unfold ptsF
  rw [List.foldl_append]
  rfl
theorem snoc_ind {α : Type} {p : List α → Prop} (h0 : p []) (h1 : ∀ x v, p x → p (x ++ [v])) (x : List α) : p x := by
  rw [← List.reverse_reverse x]
  generalize x.reverse = y
  induction y with
  | nil => exact h0
  | cons a r ih =>
    rw [List.reverse_cons]
    exact h1 _ _ ih
theorem ptsF_length (x : List Int) : (ptsF x).length = 2 ^ x.length := by
  refine snoc_ind (p := fun x => (ptsF x).length = 2 ^ x.length) rfl (fun x v ih => ?_) x
  rw [ptsF_snoc, List.length_append, List.length_map, List.length_append, ih, List.length_singleton, Nat.pow_succ]
  omega
theorem sub_snoc {α : Type} {k x : List α} {v : α} : k.Sublist (x ++ [v]) ↔ k.Sublist x ∨ ∃ j, j.Sublist x ∧ k = j ++ [v] := by
  rw [List.sublist_append_iff]
  constructor
  · rintro ⟨a, b, rfl, h1, h2⟩
    rcases b with _ | ⟨c, r⟩
    · left
      simpa using h1
    · right
      have hl := h2.length_le
      have hr : r = [] := by
        cases r with
        | nil => rfl
        | cons d r => simp at hl
      subst hr
      have : c = v := by
        have := h2.subset (List.mem_singleton.mpr rfl)
        simpa using this
      subst this
      exact ⟨a, h1, rfl⟩
  · rintro (h | ⟨j, h, rfl⟩)
    · exact ⟨k, [], by simp, h, List.nil_sublist _⟩
    · exact ⟨j, [v], rfl, h, List.Sublist.refl _⟩
theorem ptsF_mem (x : List Int) : ∀ k, k ∈ ptsF x ↔ k.Sublist x := by
  refine snoc_ind (p := fun x => ∀ k, k ∈ ptsF x ↔ k.Sublist x) (fun k => ?_) (fun x v ih k => ?_) x
  · show k ∈ [[]] ↔ _
    rw [List.mem_singleton, List.sublist_nil]
  · rw [ptsF_snoc, List.mem_append, List.mem_map, sub_snoc, ih]
    constructor
    · rintro (h | ⟨j, h, rfl⟩)
      · exact .inl h
      · exact .inr ⟨j, (ih j).mp h, rfl⟩
    · rintro (h | ⟨j, h, rfl⟩)
      · exact .inl h
      · exact .inr ⟨j, (ih j).mpr h, rfl⟩
theorem ptsF_head (x : List Int) : ∃ r, ptsF x = [] :: r ∧ ∀ k ∈ r, k ≠ [] := by
  refine snoc_ind (p := fun x => ∃ r, ptsF x = [] :: r ∧ ∀ k ∈ r, k ≠ []) ⟨[], rfl, by simp⟩ (fun x v ih => ?_) x
  obtain ⟨r, e, h⟩ := ih
  refine ⟨r ++ ([] :: r).map fun k => k ++ [v], by rw [ptsF_snoc, e]; rfl, fun k hk => ?_⟩
  rcases List.mem_append.mp hk with hk | hk
  · exact h k hk
  · obtain ⟨j, _, rfl⟩ := List.mem_map.mp hk
    simp
/-- the nonempty parts -/
def ptsN (x : List Int) : List (List Int) := (ptsF x).drop 1
theorem ptsN_mem (x k : List Int) : k ∈ ptsN x ↔ k ≠ [] ∧ k.Sublist x := by
  obtain ⟨r, e, h⟩ := ptsF_head x
  have hm := ptsF_mem x k
  unfold ptsN
  rw [e] at hm ⊢
  rw [List.drop_succ_cons, List.drop_zero]
  rw [List.mem_cons] at hm
  constructor
  · intro hk
    exact ⟨h k hk, hm.mp (.inr hk)⟩
  · rintro ⟨h1, h2⟩
    exact (hm.mpr h2).resolve_left h1
theorem ptsN_length (x : List Int) : (ptsN x).length = 2 ^ x.length - 1 := by
  unfold ptsN
  rw [List.length_drop, ptsF_length]
end K96
namespace K96
/-- F lists all faces of the simplices S, each once -/
structure IsFaces (S F : List (List Int)) : Prop where
  nd : F.Nodup
  mem : ∀ k, k ∈ F ↔ k ≠ [] ∧ ∃ s ∈ S, k.Sublist s
/-- put in, where it is not there -/
def insF (F : List (List Int)) (k : List Int) : List (List Int) := if k ∈ F then F else F ++ [k]
theorem insF_mem {F : List (List Int)} {k j : List Int} : j ∈ insF F k ↔ j ∈ F ∨ j = k := by
  unfold insF
  split
  · constructor
    · exact .inl
    · rintro (h | rfl) <;> assumption
  · rw [List.mem_append, List.mem_singleton]
theorem insF_nd {F : List (List Int)} {k : List Int} (h : F.Nodup) : (insF F k).Nodup := by
  unfold insF
  split
  · exact h
  · rename_i hk
    exact List.nodup_append.mpr ⟨h, by simp, fun a ha b hb => by rw [List.mem_singleton.mp hb]; rintro rfl; exact hk ha⟩
theorem insF_len (F : List (List Int)) (k : List Int) : (insF F k).length ≤ F.length + 1 := by
  unfold insF
  split
  · omega
  · simp
def insA (F ks : List (List Int)) : List (List Int) := ks.foldl insF F
theorem insA_snoc (F ks : List (List Int)) (k : List Int) : insA F (ks ++ [k]) = insF (insA F ks) k := by
  unfold insA
  rw [List.foldl_append]
  rfl
theorem insA_mem (F ks : List (List Int)) : ∀ j, j ∈ insA F ks ↔ j ∈ F ∨ j ∈ ks := by
  refine snoc_ind (p := fun ks => ∀ j, j ∈ insA F ks ↔ j ∈ F ∨ j ∈ ks) (fun j => by simp [insA]) (fun ks k ih j => ?_) ks
  rw [insA_snoc, insF_mem, ih, List.mem_append, List.mem_singleton, or_assoc]
theorem insA_nd {F : List (List Int)} (h : F.Nodup) (ks : List (List Int)) : (insA F ks).Nodup := by
  refine snoc_ind (p := fun ks => (insA F ks).Nodup) h (fun ks k ih => ?_) ks
  rw [insA_snoc]
  exact insF_nd ih
theorem insA_len (F ks : List (List Int)) : (insA F ks).length ≤ F.length + ks.length := by
  refine snoc_ind (p := fun ks => (insA F ks).length ≤ F.length + ks.length) (by simp [insA]) (fun ks k ih => ?_) ks
  rw [insA_snoc, List.length_append, List.length_singleton]
  have := insF_len (insA F ks) k
  omega
theorem faces_nil : IsFaces [] [] := ⟨List.nodup_nil, fun k => by simp⟩
theorem faces_had {S F : List (List Int)} {s : List Int} (h : IsFaces S F) (hs : s ∈ F) : IsFaces (S ++ [s]) F := by
  refine ⟨h.nd, fun k => ?_⟩
  rw [h.mem]
  obtain ⟨_, t, ht, hst⟩ := (h.mem s).mp hs
  constructor
  · rintro ⟨h1, t, ht, hk⟩
    exact ⟨h1, t, List.mem_append_left _ ht, hk⟩
  · rintro ⟨h1, t', ht', hk⟩
    refine ⟨h1, ?_⟩
    rcases List.mem_append.mp ht' with h' | h'
    · exact ⟨t', h', hk⟩
    · rw [List.mem_singleton.mp h'] at hk
      exact ⟨t, ht, hk.trans hst⟩
theorem faces_new {S F : List (List Int)} {s : List Int} (h : IsFaces S F) : IsFaces (S ++ [s]) (insA F (ptsN s)) := by
  refine ⟨insA_nd h.nd _, fun k => ?_⟩
  rw [insA_mem, h.mem, ptsN_mem]
  constructor
  · rintro (⟨h1, t, ht, hk⟩ | ⟨h1, hk⟩)
    · exact ⟨h1, t, List.mem_append_left _ ht, hk⟩
    · exact ⟨h1, s, by simp, hk⟩
  · rintro ⟨h1, t, ht, hk⟩
    rcases List.mem_append.mp ht with h' | h'
    · exact .inl ⟨h1, t, h', hk⟩
    · rw [List.mem_singleton.mp h'] at hk
      exact .inr ⟨h1, hk⟩
end K96

/-! parts_of. -/
namespace K96
open PySem PySem.Spec PyProof.Rows L2
section
variable {P : Program} {w : World} {K : PySem.W.Frag} {mg : Str → Option Value} {base : Heap}

def spPartsOf : Sp := fun vs H Q _ => ∃ (p : Addr) (x : List Int), vs = [.ref p] ∧ TI H p x ∧ x.length ≤ 8 ∧ ∀ H' l xs, Same H H' → H l = none → H' l = some (.lst xs) → TVs H' xs (ptsN x) → Q (.ref l) H'
abbrev n_parts_of : List Str := ["simplex", "found", "vertex", "part"]
theorem sc_parts_of : FnScope n_parts_of ["simplex"] (defScope (top 18)) := ⟨rfl, rfl, rfl, by decide +kernel, rfl, by decide +kernel, by decide +kernel⟩
theorem ok_parts_of (N : Nm mg) (D : Def K mg "parts_of" (top 18)) : Cal P w K mg base "parts_of" 1 ["simplex"] spPartsOf := by
  refine D.ok sc_parts_of (fun vs H Q E h => ?_) (fun _ _ _ _ _ _ us hl => match us, hl with | [_], _ => rfl) (fun f cdv A outer s H vs Q E hr h => ?_)
  · obtain ⟨p, x, rfl, _⟩ := h
    rfl
  · obtain ⟨p, x, rfl, hp, h8, q⟩ := h
    refine ⟨_, pss_cons (ps_set (i := 1) sc_parts_of.nd rfl (Or.inl rfl) (pe_lst (pa_cons (pe_tup pa_nil) pa_nil)))
      (pss_cons (ps_for PassesOwn.never rfl (pi_tup (pv 0)) (pg_name (i := 2) sc_parts_of.nd rfl (Or.inr rfl))
      (pss_one (ps_expr (pe_bm PySem.F.plainAttrs_list PySem.F.slot_list_extend PySem.F.type_list_extend mt_extend (pv 1) (pa_cons (pe_lc (own := [("part", 3)]) (g := gName 3) (tt := tYes) rfl sc_parts_of.nd (pi_list (pv 1)) (blkOk_by (N := n_parts_of) (sc := defScope (top 18)) (by decide +kernel)) (fun _ _ _ _ _ => (pg_name (i := 3) sc_parts_of.nd rfl (Or.inl rfl))) (fun _ _ _ _ _ => pts_nil) (fun _ _ _ _ _ => by exact (pe_tup (pa_starK (K := K) rfl (pv 3) (pa_cons (pv 2) pa_nil))))) pa_nil)))))
      (pss_one (ps_ret (pe_slice sl_list (pv 1) (po_some pe_int) po_none)))), ?_⟩
    -- found = [()]
    refine ⟨by simp [sizeLine_eq], fun e he => ⟨by simp [sizeLine_eq], fun l hl => ?_⟩⟩
    have nl : H l = none := by
      by_cases z : l = e
      · rw [z, upd_same] at hl; cases hl
      · rwa [upd_ne z] at hl
    have s0 : Same H (upd (upd H e (.tup [])) l (.lst [.ref e])) := Same.upd' (same_upd he) hl
    have nle : e ≠ l := by rintro rfl; rw [upd_same] at hl; cases hl
    -- for vertex in simplex
    refine ⟨_, rfl, p, rfl, ⟨_, seqT s0 (SqT.of hp)⟩, for_it walk_tup (fun i σ H2 => ∃ (xs : List V) (u : Option V), σ = [some (.ref p), some (.ref l), u, none] ∧ Same H H2 ∧ H2 l = some (.lst xs) ∧ TVs H2 xs (ptsF (x.take i)))
      ⟨[.ref e], none, rfl, s0, upd_same, .cons ⟨e, rfl, by show upd _ _ _ e = _; rw [upd_ne nle, upd_same]; rfl⟩ .nil⟩ (fun i σ H2 _ ⟨_, _, _, s2, _⟩ => seqT s2 (SqT.of hp)) ?_ ?_⟩
    · rintro i v _ _ H2 hi ⟨xs, u, rfl, s2, h2, tv⟩ ⟨rfl, hv⟩
      obtain ⟨z, hz, rfl⟩ := ints_at hv
      rw [List.length_map] at hi
      have hlen : xs.length = 2 ^ i := by
        rw [Paired.length tv, ptsF_length, List.length_take, Nat.min_eq_left (by omega)]
      have hpow : 2 ^ i ≤ 256 := Nat.le_trans (Nat.pow_le_pow_right (by decide) (by omega : i ≤ 8)) (by decide)
      -- found.extend([..])
      refine ⟨_, rfl, .inl ⟨rfl, _, SqL.of h2⟩, _, rfl, l, rfl, ⟨_, SqL.of h2⟩, fun D hD => ?_⟩
      refine lc_it walk_list (GP _ D (fun j acc H => ∃ L, TVs H acc L ∧ L = ((ptsF (x.take i)).take j).map fun k => k ++ [z])) (gp_start hD ⟨[], .nil, rfl⟩) (fun j H3 _ h3 => h3.1.seq (SqL.of h2)) ?_ ?_
      · rintro j y _ H3 hj ⟨s3, acc, hD3, L, tacc, rfl⟩ ⟨rfl, hy⟩
        obtain ⟨k, hk, b, rfl, hb⟩ := tvs_at tv hy
        have hb3 : TI H3 b k := s3 _ _ hb
        refine ⟨rfl, _, rfl, b, k.map V.int, rfl, .inl (SqT.of hb3), _, rfl, ?_⟩
        have hkl : k.length ≤ 8 := by
          have := ((ptsF_mem _ k).mp (List.mem_of_getElem? hk)).length_le
          rw [List.length_take] at this
          omega
        refine ⟨by simp [sizeLine_eq]; omega, fun t ht => ?_⟩
        have hl3 : acc.length = j := by
          rw [Paired.length tacc, List.length_map, List.length_take, Nat.min_eq_left]
          rw [← Paired.length tv]
          omega
        refine gp_grow off_tvs hD s3 hD3 (same_upd ht) (small_line (by omega)) ⟨_, tvs_snoc (x := k ++ [z]) (tacc.same (same_upd ht)) ⟨t, rfl, ?_⟩, ?_⟩
        · show upd H3 t _ t = _
          rw [upd_same]
          simp
        · rw [take_snoc hk, List.map_append]; rfl
      · rintro H3 ⟨s3, acc, hD3, L, tacc, rfl⟩
        have hl' : l ≠ D := by rintro rfl; rw [h2] at hD; cases hD
        have h3 := s3 _ _ h2
        have hL : xs.length = (ptsF (x.take i)).length := Paired.length tv
        rw [hL, List.take_length] at tacc
        have hla : acc.length = 2 ^ i := by rw [Paired.length tacc, List.length_map, ← hL, hlen]
        refine ⟨l, D, xs, acc, rfl, rfl, h3, hD3, by rw [sizeLine_eq]; omega, xs ++ acc, _, rfl, fun b o e => ?_, upd_same, ?_⟩
        · rw [upd_ne (ne_of_none e nl)]
          exact s3 b o (s2 b o e)
        · rw [take_snoc hz, ptsF_snoc]
          exact paired_app ((tv.same s3).but h3 (fun _ z => nomatch z) But.upd) (tacc.but h3 (fun _ z => nomatch z) But.upd)
    · rintro _ H2 ⟨xs, u, rfl, s2, h2, tv⟩
      rw [List.length_map, List.take_length] at tv
      have hl1 : 1 ≤ xs.length := by
        rw [Paired.length tv, ptsF_length]
        exact Nat.one_le_two_pow
      refine ⟨_, rfl, 1, rfl, l, xs, rfl, SqL.of h2, fun r hr => ?_⟩
      rw [show (1 : Int) = ((1 : Nat) : Int) from rfl, cut_from hl1]
      exact q _ r _ (Same.upd' s2 hr) (Same.free s2 hr) upd_same (TVs.same (same_upd hr) (paired_drop 1 tv))
end
end K96

/-! generated. -/
namespace K96
open PySem PySem.Spec PyProof.Rows L2

/-- the pairs of a dict of faces -/
def dF (F : List (List Int)) : List (List Key × V) := F.map fun k => (ky k, V.bl true)
theorem ti_key {H : Hp} {a : Addr} {x : List Int} (h : TI H a x) : H a = some (.tup ((ky x).map kV)) := by rw [ky_V]; exact h
theorem key_ti {H : Hp} {a : Addr} {x : List Int} (h : H a = some (.tup ((ky x).map kV))) : TI H a x := by rw [ky_V] at h; exact h
theorem val_some {F : List (List Int)} {k : List Int} (g : List Int → V) (h : k ∈ F) : valV (F.map fun k => (ky k, g k)) (ky k) = some (g k) := by
  induction F with
  | nil => cases h
  | cons a F ih =>
    rw [List.map_cons]
    by_cases e : a = k
    · subst e
      exact valV_pos rfl
    · rw [valV_neg (fun z => e (ky_inj z))]
      exact ih ((List.mem_cons.mp h).resolve_left fun z => e z.symm)
theorem val_none {F : List (List Int)} {k : List Int} (g : List Int → V) (h : k ∉ F) : valV (F.map fun k => (ky k, g k)) (ky k) = none := by
  induction F with
  | nil => rfl
  | cons a F ih =>
    rw [List.map_cons, valV_neg (fun z => h (by rw [ky_inj z]; exact List.mem_cons_self))]
    exact ih fun z => h (List.mem_cons_of_mem _ z)
theorem put_dF (F : List (List Int)) (k : List Int) : putK (dF F) (ky k) (.bl true) = dF (insF F k) := by
  unfold insF
  by_cases h : k ∈ F
  · rw [if_pos h]
    unfold putK
    rw [valV_any, show valV (dF F) (ky k) = some (.bl true) from val_some (fun _ => .bl true) h]
    simp only [Option.isSome_some, if_true]
    unfold dF
    rw [List.map_map]
    refine List.map_congr_left fun j _ => ?_
    show (if ky j = ky k then (ky j, V.bl true) else (ky j, V.bl true)) = _
    split <;> rfl
  · rw [if_neg h, putK_new _ (show valV (dF F) (ky k) = none from val_none (fun _ => .bl true) h)]
    unfold dF
    rw [List.map_append]
    rfl
theorem dF_len (F : List (List Int)) : (dF F).length = F.length := List.length_map ..
section
variable {P : Program} {w : World} {K : PySem.W.Frag} {mg : Str → Option Value} {base : Heap}

/-- simplices as they are drawn: at most fifteen, of one to four vertices -/
structure Few (S : List (List Int)) : Prop where
  few : S.length ≤ 15
  ne : ∀ s ∈ S, 1 ≤ s.length
  len : ∀ s ∈ S, s.length ≤ 4
def spGenerated : Sp := fun vs H Q _ => ∃ (p : Addr) (xs : List V) (S : List (List Int)), vs = [.ref p] ∧ TupR H p xs ∧ TVs H xs S ∧ Few S ∧
  ∀ H' d F, Same H H' → H d = none → H' d = some (.dT (dF F)) → IsFaces S F → F.length ≤ 225 → Q (.ref d) H'
abbrev n_generated : List Str := ["simplices", "found", "simplex", "part"]
theorem sc_generated : FnScope n_generated ["simplices"] (defScope (top 19)) := ⟨rfl, rfl, rfl, by decide +kernel, rfl, by decide +kernel, by decide +kernel⟩
theorem ok_generated (N : Nm mg) (D : Def K mg "generated" (top 19)) (gF : ∃ t, mg "MOST_FACES" = some (.int 400 t)) (c1 : Cal P w K mg base "parts_of" 1 ["simplex"] spPartsOf) : Cal P w K mg base "generated" 2 ["simplices"] spGenerated := by
  obtain ⟨f1, fd1, G_parts_of, g_parts_of, k_parts_of, b_parts_of⟩ := c1.ex
  obtain ⟨tF, gF⟩ := gF
  refine D.ok sc_generated (fun vs H Q E h => ?_) (fun _ _ _ _ _ _ us hl => match us, hl with | [_], _ => rfl) (fun f cdv A outer s H vs Q E hr h => ?_)
  · obtain ⟨p, xs, S, rfl, _⟩ := h
    rfl
  · obtain ⟨p, xs, S, rfl, hp, tS, few, q⟩ := h
    have hu := hu_of hr
    refine ⟨_, pss_cons (ps_set (i := 1) sc_generated.nd rfl (Or.inl rfl) pe_dnewT)
      (pss_cons (ps_for PassesOwn.never rfl (pi_tup (pv 0)) (pg_name (i := 2) sc_generated.nd rfl (Or.inl rfl))
      (pss_one (ps_if (pt_cmp (pc_dnotin hu (pv 2) (pv 1))) (pss_cons (ps_for PassesOwn.never rfl (pi_list (pe_call G_parts_of hr (by rfl) g_parts_of k_parts_of b_parts_of .nil pass0 (pa_cons (pv 2) pa_nil))) (pg_name (i := 3) sc_generated.nd rfl (Or.inl rfl))
      (pss_one (ps_dput hu (pv 1) (pv 3) pe_bl rfl)))
      (pss_one (ps_if (pt_cmpR op_gt (pe_callB call_len_dT (by rfl) N.len PySem.boot_len (pa_cons (pv 1) pa_nil)) (pe_glob (v := .int 400) (by rfl) gF ⟨_, rfl⟩) (nomark _)) (pss_one ps_never) pss_nil))) pss_nil)))
      (pss_one (ps_ret (pv 1)))), ?_⟩
    -- found = {}
    intro d hd
    have s0 : Same H (upd H d (.dT [])) := same_upd hd
    -- for simplex in simplices
    refine ⟨_, rfl, p, rfl, ⟨_, TupR.seq (TupR.same s0 hp)⟩, for_it walk_tup (fun i σ H2 => ∃ (u1 u2 : Option V) (F : List (List Int)), σ = [some (.ref p), some (.ref d), u1, u2] ∧ Same H H2 ∧ H2 d = some (.dT (dF F)) ∧ IsFaces (S.take i) F ∧ F.length ≤ 15 * i)
      ⟨none, none, [], rfl, s0, upd_same, faces_nil, Nat.le_refl _⟩ (fun i σ H2 _ ⟨_, _, _, _, s2, _⟩ => TupR.seq (TupR.same s2 hp)) ?_ ?_⟩
    · rintro i v _ _ H2 hi ⟨u1, u2, F, rfl, s2, hd2, hF, hl⟩ ⟨rfl, hv⟩
      obtain ⟨x, hx, a, rfl, ha⟩ := tvs_at tS hv
      have hm : x ∈ S := List.mem_of_getElem? hx
      have ha2 : TI H2 a x := s2 _ _ ha
      have hi15 : i < 15 := Nat.lt_of_lt_of_le (List.getElem?_eq_some_iff.mp hx).1 few.few
      -- if simplex not in found
      refine ⟨_, rfl, _, rfl, d, _, rfl, DGet.t (k := ky x) hd2 (ti_key ha2), _, rfl, ?_⟩
      by_cases hxF : x ∈ F
      · rw [show valV (dF F) (ky x) = some (.bl true) from val_some (fun _ => .bl true) hxF]
        refine iteF ⟨_, _, F, rfl, s2, hd2, ?_, by omega⟩
        rw [take_snoc hx]
        exact faces_had hF hxF
      · rw [show valV (dF F) (ky x) = none from val_none (fun _ => .bl true) hxF]
        refine iteT ?_
        -- for part in parts_of(simplex)
        refine ⟨_, rfl, a, x, rfl, ha2, Nat.le_trans (few.len x hm) (by decide), fun H3 l ys s3 hl3 hl3' tys => ⟨l, rfl, ⟨_, SqL.of hl3'⟩, ?_⟩⟩
        have hdl : l ≠ d := by rintro rfl; rw [hd2] at hl3; cases hl3
        have hpl : (ptsN x).length ≤ 15 := by
          rw [ptsN_length]
          have : 2 ^ x.length ≤ 2 ^ 4 := Nat.pow_le_pow_right (by decide) (few.len x hm)
          omega
        refine for_it walk_list (fun j σ H4 => ∃ u : Option V, σ = [some (.ref p), some (.ref d), some (.ref a), u] ∧ But d H3 H4 ∧ Same H H4 ∧ H4 d = some (.dT (dF (insA F ((ptsN x).take j)))))
          ⟨u2, rfl, But.of_same (Same.refl _), s2.trans s3, s3 _ _ hd2⟩ (fun j σ H4 _ ⟨_, _, b4, _, _⟩ => SqL.of (b4 _ _ hdl hl3')) ?_ ?_
        · rintro j y _ _ H4 hj ⟨u, rfl, b4, s4, h4⟩ ⟨rfl, hy⟩
          obtain ⟨k, hk, b, rfl, hb⟩ := tvs_at tys hy
          have hb3 : TI H4 b k := by
            refine b4 _ _ ?_ hb
            rintro rfl
            have z : H3 b = some (.tup (k.map V.int)) := hb
            rw [s3 _ _ hd2] at z
            cases z
          have hlen := insA_len F ((ptsN x).take j)
          have ht : ((ptsN x).take j).length ≤ 15 := Nat.le_trans (List.length_take_le' ..) hpl
          refine ⟨_, rfl, _, rfl, d, _, rfl, DPut.t (k := ky k) h4 (ti_key hb3) (by rw [dF_len]; exact small_line (by omega)), _, rfl, b4.trans But.upd, fun c o e => ?_, ?_⟩
          · rw [upd_ne (ne_of_none e hd)]
            exact s4 c o e
          · rw [upd_same, put_dF, take_snoc hk, insA_snoc]
        · rintro _ H4 ⟨u, rfl, b4, s4, h4⟩
          rw [Paired.length tys, List.take_length] at h4
          have hlen := insA_len F (ptsN x)
          -- if len(found) > MOST_FACES
          refine ⟨_, rfl, d, _, rfl, h4, _, _, rfl, rfl, _, rfl, ?_⟩
          have e : decide ((400 : Int) < ((dF (insA F (ptsN x))).length : Int)) = false := by
            rw [dF_len]
            exact decide_eq_false (by omega)
          rw [e]
          refine iteF ⟨_, _, _, rfl, s4, h4, ?_, by omega⟩
          rw [take_snoc hx]
          exact faces_new hF
    · rintro _ H2 ⟨u1, u2, F, rfl, s2, hd2, hF, hl⟩
      rw [Paired.length tS, List.take_length] at hF
      have := few.few
      rw [Paired.length tS] at hl
      exact ⟨_, rfl, q H2 d F s2 hd hd2 hF (by omega)⟩
end
end K96

/-! sorted as the program uses it; in_order. -/
namespace K96
open PySem PySem.Spec PyProof.Rows L2

theorem paired_perm {α β : Type} {R : α → β → Prop} {xs ys : List α} (p : ys.Perm xs) : ∀ {L : List β}, Paired R xs L → ∃ M, Paired R ys M ∧ M.Perm L := by
  induction p with
  | nil =>
    intro L h
    exact ⟨L, h, List.Perm.refl _⟩
  | cons x _ ih =>
    intro L h
    cases h with
    | cons h1 h2 =>
      obtain ⟨M, hM, pM⟩ := ih h2
      exact ⟨_ :: M, .cons h1 hM, pM.cons _⟩
  | swap x y l =>
    intro L h
    cases h with
    | cons h1 h2 =>
      cases h2 with
      | cons h2 h3 => exact ⟨_, .cons h2 (.cons h1 h3), List.Perm.swap _ _ _⟩
  | trans _ _ ih1 ih2 =>
    intro L h
    obtain ⟨M, hM, pM⟩ := ih2 h
    obtain ⟨M', hM', pM'⟩ := ih1 hM
    exact ⟨M', hM', pM'.trans pM⟩
theorem paired_mem {α β : Type} {R : α → β → Prop} {xs : List α} {L : List β} (h : Paired R xs L) {x : α} (hx : x ∈ xs) : ∃ y ∈ L, R x y := by
  induction h with
  | nil => cases hx
  | cons h t ih =>
    rcases List.mem_cons.mp hx with rfl | hx
    · exact ⟨_, List.mem_cons_self, h⟩
    · obtain ⟨y, hy, r⟩ := ih hx
      exact ⟨y, List.mem_cons_of_mem _ hy, r⟩
/-- what is read of a value, an item, in the heap -/
def intsOf (zs : List V) : List Int := zs.map fun v => match v with | .int i => i | _ => 0
theorem intsOf_map (x : List Int) : intsOf (x.map V.int) = x := by
  unfold intsOf
  rw [List.map_map]
  exact List.map_id' x
def atOf (H : Hp) : V → At
  | .int i => .inl i
  | .ref q => .inr (match H q with | some (.tup zs) => intsOf zs | _ => [])
  | _ => .inl 0
def itOf (H : Hp) : V → List At
  | .ref t => (match H t with | some (.tup its) => its.map (atOf H) | _ => [])
  | _ => []
theorem atOf_int (H : Hp) (i : Int) : AV H (.int i) (atOf H (.int i)) := rfl
theorem atOf_ti {H : Hp} {q : Addr} {x : List Int} (h : TI H q x) : AV H (.ref q) (atOf H (.ref q)) := by
  have e : atOf H (.ref q) = .inr x := by
    show Sum.inr _ = _
    rw [show H q = some (.tup (x.map V.int)) from h]
    exact congrArg _ (intsOf_map x)
  rw [e]
  exact ⟨q, rfl, h⟩
/-- what sorted asks, told by the items -/
theorem sort_of {K : PySem.W.Frag} {H : Hp} {Q : VK} {l : Addr} {xs : List V} (sh : Nat → Bool) (hl : SqL K H l xs) (h : ∀ x ∈ xs, ∃ t its, x = V.ref t ∧ H t = some (.tup its) ∧ its ≠ [] ∧
    (∀ y ∈ its, AV H y (atOf H y)) ∧ ∀ (i : Nat) y, its[i]? = some y → (atOf H y).isLeft = sh i) (q : ∀ ys p, ys.Perm xs → H p = none → Q (.ref p) (upd H p (.lst ys))) : rSortN K [.ref l] H Q := by
  refine ⟨l, xs, sh, itOf H, rfl, hl, fun x hx => ?_, q⟩
  obtain ⟨t, its, rfl, ht, hne, hat, hsh⟩ := h x hx
  have e : itOf H (.ref t) = its.map (atOf H) := by
    show (match H t with | some (.tup its) => its.map (atOf H) | _ => []) = _
    rw [ht]
  refine ⟨t, its, rfl, ht, ?_, fun i y hy => ?_, ?_⟩
  · rw [e]
    clear e hsh hne ht
    induction its with
    | nil => exact .nil
    | cons a r ih => exact .cons (hat a List.mem_cons_self) (ih fun y hy => hat y (List.mem_cons_of_mem _ hy))
  · rw [e, List.getElem?_map, Option.map_eq_some_iff] at hy
    obtain ⟨z, hz, rfl⟩ := hy
    exact hsh i z hz
  · rw [e]
    simpa using hne
/-- a pair (length, tuple) -/
def PV (H : Hp) (v : V) (x : List Int) : Prop := ∃ t q, v = .ref t ∧ H t = some (.tup [.int x.length, .ref q]) ∧ TI H q x
abbrev PVs (H : Hp) (xs : List V) (L : List (List Int)) : Prop := Paired (PV H) xs L
theorem PV.but {D : Addr} {H H' : Hp} {u : HO} {v : V} {x : List Int} (h : PV H v x) (hD : H D = some u) (hu : ∀ xs, u ≠ .tup xs) (s : But D H H') : PV H' v x := by
  obtain ⟨t, q, e1, e2, e3⟩ := h
  have ne : ∀ {b : Addr} {ys : List V}, H b = some (.tup ys) → b ≠ D := fun e z => by
    subst z
    rw [hD] at e
    exact hu _ (Option.some.inj e)
  exact ⟨t, q, e1, s _ _ (ne e2) e2, s _ _ (ne e3) e3⟩
theorem PV.same {H H' : Hp} (e : Same H H') {v : V} {x : List Int} (h : PV H v x) : PV H' v x := by
  obtain ⟨t, q, e1, e2, e3⟩ := h
  exact ⟨t, q, e1, e _ _ e2, e _ _ e3⟩
theorem PVs.same {H H' : Hp} (e : Same H H') {xs : List V} {L : List (List Int)} (h : PVs H xs L) : PVs H' xs L := Paired.mapP h fun _ _ z => PV.same e z
theorem off_pvs {D : Addr} {f : Nat → List (List Int) → Prop} : Off D (fun i acc H => ∃ L, PVs H acc L ∧ f i L) := fun _ _ _ _ _ ⟨L, h, q⟩ hD s => ⟨L, Paired.mapP h fun _ _ z => PV.but z hD (fun _ z => nomatch z) s, q⟩
theorem sort_pvs {K : PySem.W.Frag} {H : Hp} {Q : VK} {l : Addr} {xs : List V} {L : List (List Int)} (hl : SqL K H l xs) (h : PVs H xs L) (q : ∀ ys p M, PVs H ys M → M.Perm L → H p = none → Q (.ref p) (upd H p (.lst ys))) : rSortN K [.ref l] H Q := by
  refine sort_of (fun i => i == 0) hl (fun x hx => ?_) fun ys p pm hp => ?_
  · obtain ⟨y, _, t, q, rfl, ht, hq⟩ := paired_mem h hx
    refine ⟨t, _, rfl, ht, by simp, fun z hz => ?_, fun i z hz => ?_⟩
    · rcases List.mem_cons.mp hz with rfl | hz
      · exact atOf_int H _
      · rw [List.mem_singleton.mp hz]
        exact atOf_ti hq
    · match i, hz with
      | 0, hz => cases hz; rfl
      | 1, hz => cases hz; rfl
      | n + 2, hz => simp at hz
  · obtain ⟨M, hM, pM⟩ := paired_perm pm h
    exact q ys p M hM pM hp
theorem sort_tvs {K : PySem.W.Frag} {H : Hp} {Q : VK} {l : Addr} {xs : List V} {L : List (List Int)} (hl : SqL K H l xs) (h : TVs H xs L) (hne : ∀ x ∈ L, x ≠ []) (q : ∀ ys p M, TVs H ys M → M.Perm L → H p = none → Q (.ref p) (upd H p (.lst ys))) : rSortN K [.ref l] H Q := by
  refine sort_of (fun _ => true) hl (fun x hx => ?_) fun ys p pm hp => ?_
  · obtain ⟨y, hy, t, rfl, ht⟩ := paired_mem h hx
    refine ⟨t, _, rfl, ht, by simpa using hne y hy, fun z hz => ?_, fun i z hz => ?_⟩
    · obtain ⟨i, _, rfl⟩ := List.mem_map.mp hz
      exact atOf_int H _
    · obtain ⟨j, _, rfl⟩ := ints_at hz
      rfl
  · obtain ⟨M, hM, pM⟩ := paired_perm pm h
    exact q ys p M hM pM hp
section
variable {P : Program} {w : World} {K : PySem.W.Frag} {mg : Str → Option Value} {base : Heap}

def spInOrder : Sp := fun vs H Q _ => ∃ (l : Addr) (xs : List V) (L : List (List Int)), vs = [.ref l] ∧ H l = some (.lst xs) ∧ TVs H xs L ∧ L.length ≤ 1000 ∧
  ∀ H' r ys M, Same H H' → H r = none → H' r = some (.lst ys) → TVs H' ys M → M.Perm L → Q (.ref r) H'
abbrev n_in_order : List Str := ["simplices", "simplex", "pair"]
theorem sc_in_order : FnScope n_in_order ["simplices"] (defScope (top 20)) := ⟨rfl, rfl, rfl, by decide +kernel, rfl, by decide +kernel, by decide +kernel⟩
theorem ok_in_order (N : Nm mg) (D : Def K mg "in_order" (top 20)) : Cal P w K mg base "in_order" 1 ["simplices"] spInOrder := by
  refine D.ok sc_in_order (fun vs H Q E h => ?_) (fun _ _ _ _ _ _ us hl => match us, hl with | [_], _ => rfl) (fun f cdv A outer s H vs Q E hr h => ?_)
  · obtain ⟨l, xs, L, rfl, _⟩ := h
    rfl
  · obtain ⟨l, xs, L, rfl, hl, tL, h1000, q⟩ := h
    have hu2 : (A.deeper (envOfC "in_order" (defScope (top 20)) s.heap.objs.size f cdv)).units + 2 < cLine := by have := hr.units; omega
    refine ⟨_, pss_one (ps_ret (pe_lc (own := [("pair", 2)]) (g := gName 2) (tt := tYes) rfl sc_in_order.nd (pi_list (pe_callB (cr_sortN hu2) (by rfl) N.sorted (by decide +kernel) (pa_cons (pe_lc (own := [("simplex", 1)]) (g := gName 1) (tt := tYes) rfl sc_in_order.nd (pi_list (pv 0)) (blkOk_by (N := n_in_order) (sc := defScope (top 20)) (by decide +kernel)) (fun _ _ _ _ _ => (pg_name (i := 1) sc_in_order.nd rfl (Or.inl rfl))) (fun _ _ _ _ _ => pts_nil) (fun _ _ _ _ _ => by exact (pe_tup (pa_cons (pe_callB (call_lenK (K := K) rfl) (by rfl) N.len PySem.boot_len (pa_cons (pv 1) pa_nil)) (pa_cons (pv 1) pa_nil))))) pa_nil))) (blkOk_by (N := n_in_order) (sc := defScope (top 20)) (by decide +kernel)) (fun _ _ _ _ _ => (pg_name (i := 2) sc_in_order.nd rfl (Or.inl rfl))) (fun _ _ _ _ _ => pts_nil) (fun _ _ _ _ _ => by exact (pe_ix (ix_tupK (K := K) rfl) (pv 2) pe_int (fun _ _ => rfl))))), ?_⟩
    have hlen := Paired.length tL
    refine ⟨_, rfl, l, rfl, ⟨_, SqL.of hl⟩, fun D1 hD1 => lc_it walk_list (GP H D1 (fun i acc H => ∃ L', PVs H acc L' ∧ L' = L.take i)) (gp_start hD1 ⟨[], .nil, rfl⟩) (fun i H2 _ h2 => h2.1.seq (SqL.of hl)) ?_ ?_⟩
    · rintro i v _ H2 hi ⟨s1, acc, hD2, L', tacc, rfl⟩ ⟨rfl, hv⟩
      obtain ⟨x, hx, a, rfl, ha⟩ := tvs_at tL hv
      have ha2 : TI H2 a x := s1 _ _ ha
      refine ⟨rfl, _, rfl, a, _, rfl, .inr (SqT.of ha2), _, rfl, by simp [sizeLine_eq], fun t ht => ?_⟩
      have hl3 : acc.length = i := by rw [Paired.length tacc, List.length_take, Nat.min_eq_left]; omega
      refine gp_grow off_pvs hD1 s1 hD2 (same_upd ht) (small_line (by omega)) ⟨_, Paired.snoc (PVs.same (same_upd ht) tacc) (b := x) ⟨t, a, rfl, ?_, same_upd ht _ _ ha2⟩, (take_snoc hx).symm⟩
      rw [upd_same, List.length_map]
    · rintro H2 ⟨s1, acc, hD2, L', tacc, rfl⟩
      rw [hlen, List.take_length] at tacc
      dsimp only [tNil]
      refine sort_pvs (SqL.of hD2) tacc fun ys p M tM pM hp => ⟨p, rfl, ⟨ys, SqL.of upd_same⟩, fun D2 hD2' => ?_⟩
      have hML : M.length = L.length := pM.length_eq
      have hys := Paired.length tM
      refine lc_it walk_list (GP _ D2 (fun i acc H => ∃ L', TVs H acc L' ∧ L' = M.take i)) (gp_start hD2' ⟨[], .nil, rfl⟩) (fun i H3 _ h3 => h3.1.seq (SqL.of upd_same)) ?_ ?_
      · rintro i v _ H3 hi ⟨s3, acc3, hD3, L', tacc3, rfl⟩ ⟨rfl, hv⟩
        obtain ⟨x, hx, t, a, rfl, ht, ha⟩ := paired_get tM hv
        have ht3 : H3 t = some (.tup [.int x.length, .ref a]) := s3 _ _ (same_upd hp _ _ ht)
        have ha3 : TI H3 a x := s3 _ _ (same_upd hp _ _ ha)
        refine ⟨rfl, _, rfl, t, _, 1, .ref a, rfl, rfl, SqT.of ht3, rfl, ?_⟩
        have hl3 : acc3.length = i := by rw [Paired.length tacc3, List.length_take, Nat.min_eq_left]; omega
        exact gp_grow off_tvs hD2' s3 hD3 (Same.refl _) (small_line (by omega)) ⟨_, tvs_snoc tacc3 ⟨a, rfl, ha3⟩, (take_snoc hx).symm⟩
      · rintro H3 ⟨s3, acc3, hD3, L', tacc3, rfl⟩
        rw [hys, List.take_length] at tacc3
        have sA : Same H H3 := (s1.trans (same_upd hp)).trans s3
        exact q H3 D2 acc3 M sA ((s1.trans (same_upd hp)).free hD2') hD3 tacc3 pM
end
end K96

/-! t[:i] + t[i + 1:], as one rule. -/
namespace K96
open PySem PySem.Spec PyProof.Rows L2

/-- the tuple in slot a without its item at the place in slot b -/
def tErase (a b : Nat) : TE := fun σ H Q => ∃ (p : Addr) (x : List Int) (i : Nat), σ[a]? = some (some (.ref p)) ∧ σ[b]? = some (some (.int (i : Int))) ∧ TI H p x ∧ i < x.length ∧ x.length ≤ 1000 ∧
  ∀ H' q, Same H H' → TI H' q (x.eraseIdx i) → Q (.ref q) H'
theorem pe_erase {X : Cx} {e e' f f' : Expr} {a b k : Nat} {p1 p2 p3 p4 p5 p6 pos : Pos} (he : PE X e (tVar a)) (hf : PE X f (tVar b)) (he' : PE X e' (tVar a)) (hf' : PE X f' (tVar b)) :
    PE X (.BinOp (.Subscript e (.Slice none (some f) none p1) p2) .Add (.Subscript e' (.Slice (some (.BinOp f' .Add (.Constant (.int 1) k p3) p4)) none none p5) p6) pos) (tErase a b) := by
  have base := pe_op (X := X) (pos := pos) op_catA (pe_slice (p2 := p1) (pos := p2) sl_tupA he po_none (po_some hf)) (pe_slice (p2 := p5) (pos := p6) sl_tupA he' (po_some (pe_op (pos := p4) op_add hf' (pe_int (i := 1) (j := k) (pos := p3)))) po_none)
  constructor
  intro pins s σ H Q I h
  refine base.run pins s σ H Q I ?_
  obtain ⟨p, x, i, e1, e2, hp, hi, hz, q⟩ := h
  have ht : (x.map V.int).length = x.length := List.length_map ..
  refine ⟨_, e1, _, e2, i, rfl, p, x.map V.int, rfl, SqT.of hp, fun z => ?_, fun z t1 h1 => ?_⟩
  · have := whole_to.mp z
    omega
  rw [cut_to (by omega), ← List.map_take]
  have hp1 : TI (upd H t1 (.tup ((x.take i).map V.int))) p x := same_upd h1 _ _ hp
  refine ⟨_, e1, _, e2, _, _, rfl, rfl, _, rfl, p, x.map V.int, rfl, SqT.of hp1, fun z => ?_, fun z t2 h2 => ?_⟩
  · have := whole_from (k := i + 1).mp z
    omega
  have ec : cutV (x.map V.int) (some ((i : Int) + 1)) none = (x.drop (i + 1)).map V.int := by
    rw [show (i : Int) + 1 = ((i + 1 : Nat) : Int) from rfl, cut_from (by omega), List.map_drop]
  show rCatA X.K (.ref t1) (.ref t2) (upd _ t2 (.tup (cutV (x.map V.int) (some ((i : Int) + 1)) none))) Q
  rw [ec]
  have s2 : Same H (upd (upd H t1 (.tup ((x.take i).map V.int))) t2 (.tup ((x.drop (i + 1)).map V.int))) := Same.upd' (same_upd h1) h2
  have g1 : upd (upd H t1 (.tup ((x.take i).map V.int))) t2 (.tup ((x.drop (i + 1)).map V.int)) t1 = some (.tup ((x.take i).map V.int)) := same_upd h2 _ _ upd_same
  have ee : x.eraseIdx i = x.take i ++ x.drop (i + 1) := List.eraseIdx_eq_take_drop_succ ..
  refine ⟨t1, t2, _, _, rfl, rfl, SqT.of g1, SqT.of upd_same, ?_, fun z => ?_, fun z z2 => ?_, fun z z2 t3 h3 => ?_⟩
  · rw [List.length_map, List.length_map, List.length_take, List.length_drop, sizeLine_eq]
    omega
  · refine q _ t2 s2 ?_
    have z' : x.take i = [] := by simpa using z
    rw [ee, z', List.nil_append]
    exact upd_same
  · refine q _ t1 s2 ?_
    have z' : x.drop (i + 1) = [] := List.map_eq_nil_iff.mp z2
    have e3 : x.eraseIdx i = x.take i := by rw [ee, z', List.append_nil]
    rw [e3]
    exact g1
  · refine q _ t3 (Same.upd' s2 h3) ?_
    rw [ee, TI, List.map_append]
    exact upd_same
end K96

/-! Plain: drawn simplices, a complex's faces. -/
namespace K96
/-- simplices as they are drawn -/
structure Drawn (S : List (List Int)) : Prop where
  few : S.length ≤ 15
  ne : ∀ s ∈ S, 1 ≤ s.length
  len : ∀ s ∈ S, s.length ≤ 4
  lo : ∀ s ∈ S, ∀ v ∈ s, 0 ≤ v
  hi : ∀ s ∈ S, ∀ v ∈ s, v ≤ 6
  up : ∀ s ∈ S, s.Pairwise (· < ·)
/-- the faces of a complex -/
structure Fc (F : List (List Int)) : Prop where
  nd : F.Nodup
  few : F.length ≤ 225
  ne : ∀ x ∈ F, x ≠ []
  len : ∀ x ∈ F, x.length ≤ 4
  lo : ∀ x ∈ F, ∀ v ∈ x, 0 ≤ v
  hi : ∀ x ∈ F, ∀ v ∈ x, v ≤ 6
  up : ∀ x ∈ F, x.Pairwise (· < ·)
  cl : ∀ x ∈ F, ∀ y, y ≠ [] → y.Sublist x → y ∈ F
theorem Fc.of {S F : List (List Int)} (d : Drawn S) (h : IsFaces S F) (hl : F.length ≤ 225) : Fc F where
  nd := h.nd
  few := hl
  ne := fun x hx => ((h.mem x).mp hx).1
  len := fun x hx => by
    obtain ⟨_, s, hs, hk⟩ := (h.mem x).mp hx
    exact Nat.le_trans hk.length_le (d.len s hs)
  lo := fun x hx v hv => by
    obtain ⟨_, s, hs, hk⟩ := (h.mem x).mp hx
    exact d.lo s hs v (hk.subset hv)
  hi := fun x hx v hv => by
    obtain ⟨_, s, hs, hk⟩ := (h.mem x).mp hx
    exact d.hi s hs v (hk.subset hv)
  up := fun x hx => by
    obtain ⟨_, s, hs, hk⟩ := (h.mem x).mp hx
    exact (d.up s hs).sublist hk
  cl := fun x hx y hy hs => by
    obtain ⟨_, s, hs', hk⟩ := (h.mem x).mp hx
    exact (h.mem y).mpr ⟨hy, s, hs', hs.trans hk⟩
theorem IsFaces.perm {S F G : List (List Int)} (h : IsFaces S F) (g : IsFaces S G) : F.Perm G := by
  refine (List.perm_ext_iff_of_nodup h.nd g.nd).mpr fun k => ?_
  rw [h.mem, g.mem]
end K96

/-! maximal. -/
namespace K96
open PySem PySem.Spec PyProof.Rows L2

/-- all but what stands at d is as it was, and d gets back what it had -/
theorem But.back {d : Addr} {u : HO} {H H' : Hp} (h : But d H H') (hd : H d = some u) : Same H (L2.upd H' d u) := fun b o e => by
  by_cases z : b = d
  · subst z
    rw [upd_same, ← hd, e]
  · rw [upd_ne z]
    exact h b o z e
theorem TI.but {D : Addr} {H H' : Hp} {u : HO} {a : Addr} {x : List Int} (h : TI H a x) (hD : H D = some u) (hu : ∀ xs, u ≠ .tup xs) (s : But D H H') : TI H' a x := by
  refine s a _ ?_ h
  rintro rfl
  have e3 : H a = some (.tup (x.map V.int)) := h
  rw [hD] at e3
  exact hu _ (Option.some.inj e3)
theorem But.gone {D : Addr} {H H' : Hp} {a : Addr} (s : But D H H') (h : H' a = none) (hD : a ≠ D) : H a = none := by
  cases e : H a with
  | none => rfl
  | some o => rw [s a o hD e] at h; cases h
theorem dF_get {F : List (List Int)} {i : Nat} {k : List Key} {v : V} (h : (dF F)[i]? = some (k, v)) : ∃ x, F[i]? = some x ∧ k = ky x := by
  unfold dF at h
  rw [List.getElem?_map, Option.map_eq_some_iff] at h
  obtain ⟨x, hx, e⟩ := h
  cases e
  exact ⟨x, hx, rfl⟩
theorem walk_r1 {n : Nat} : Walk (Itr 0 (n : Int).toNat) n (fun _ => True) (YFn fun i => .int (i : Nat)) := by
  have h := walk_range (lo := 0) (n := n)
  simpa using h
theorem rng1 {n : Nat} {p : Prop} (h : n ≤ 1000000) (hp : p) : -2 ^ 62 ≤ (n : Int) ∧ (n : Int) < 2 ^ 62 ∧ p := ⟨by omega, by omega, hp⟩
section
variable {P : Program} {w : World} {K : PySem.W.Frag} {mg : Str → Option Value} {base : Heap}

/-- a dict of faces as it is passed -/
structure FcD (H : Hp) (d : Addr) (F : List (List Int)) : Prop where
  at' : H d = some (.dT (dF F))
  fc : Fc F
theorem FcD.same {H H' : Hp} {d : Addr} {F : List (List Int)} (h : FcD H d F) (s : Same H H') : FcD H' d F := ⟨s _ _ h.at', h.fc⟩
def spMaximal : Sp := fun vs H Q _ => ∃ (d : Addr) (F : List (List Int)), vs = [.ref d] ∧ FcD H d F ∧ ∀ H' t, Same H H' → Q (.ref t) H'
abbrev n_maximal : List Str := ["faces", "inner", "simplex", "at"]
theorem sc_maximal : FnScope n_maximal ["faces"] (defScope (top 21)) := ⟨rfl, rfl, rfl, by decide +kernel, rfl, by decide +kernel, by decide +kernel⟩
theorem ok_maximal (N : Nm mg) (D : Def K mg "maximal" (top 21)) : Cal P w K mg base "maximal" 1 ["faces"] spMaximal := by
  refine D.ok sc_maximal (fun vs H Q E h => ?_) (fun _ _ _ _ _ _ us hl => match us, hl with | [_], _ => rfl) (fun f cdv A outer s H vs Q E hr h => ?_)
  · obtain ⟨d, F, rfl, _⟩ := h
    rfl
  · obtain ⟨d, F, rfl, hF, q⟩ := h
    have hu := hu_of hr
    have hu2 : (A.deeper (envOfC "maximal" (defScope (top 21)) s.heap.objs.size f cdv)).units + 2 < cLine := by have := hr.units; omega
    refine ⟨_, pss_cons (ps_set (i := 1) sc_maximal.nd rfl (Or.inr rfl) pe_dnewT)
      (pss_cons (ps_lock (ps_for PassesOwn.never rfl (pi_keys (pv 0)) (pg_name (i := 2) sc_maximal.nd rfl (Or.inl rfl))
      (pss_one (ps_for PassesOwn.never rfl (pi_range1 (by rfl) N.range (pa_cons (pe_callB call_len_seq (by rfl) N.len PySem.boot_len (pa_cons (pv 2) pa_nil)) pa_nil)) (pg_name (i := 3) sc_maximal.nd rfl (Or.inl rfl))
      (pss_one (ps_dput hu (pv 1) (pe_erase (pv 2) (pv 3) (pv 2) (pv 3)) pe_bl rfl))))))
      (pss_one (ps_ret (pe_callTy call_tuple_of (by rfl) N.tuple (by decide +kernel) (pa_cons (pe_callB (cr_sortN hu2) (by rfl) N.sorted (by decide +kernel) (pa_cons (pe_lock (pe_lc (own := [("simplex", 2)]) (g := gName 2) rfl sc_maximal.nd (pi_keys (pv 0)) (blkOk_by (N := n_maximal) (sc := defScope (top 21)) (by decide +kernel)) (fun _ _ _ _ _ => (pg_name (i := 2) sc_maximal.nd rfl (Or.inl rfl))) (fun _ _ _ _ _ => (pts_one (pt_cmp (pc_dnotin hu (pv 2) (pv 1))))) (fun _ _ _ _ _ => by exact (pv 2)))) pa_nil)) pa_nil))))), ?_⟩
    -- inner = {}
    intro n hn
    have s0 : Same H (upd H n (.dT [])) := same_upd hn
    have hd0 := s0 _ _ hF.at'
    have ndn : d ≠ n := by rintro rfl; rw [hF.at'] at hn; cases hn
    have hFl := hF.fc.few
    -- for simplex in faces
    refine ⟨d, _, hd0, trivial, fun od => ⟨_, rfl, d, od, rfl, .inr ⟨dF F, upd_same, ?_⟩⟩⟩
    have b0 : But d (upd H n (.dT [])) (upd (upd H n (.dT [])) d (.frz od (.dT (dF F)))) := But.upd
    refine for_it walk_keysT (fun i σ H2 => ∃ (u1 u2 : Option V) (G : List (List Int)), σ = [some (.ref d), some (.ref n), u1, u2] ∧ (∀ b o, b ≠ d → H b = some o → H2 b = some o) ∧ H2 d = some (.frz od (.dT (dF F))) ∧ H2 n = some (.dT (dF G)) ∧ G.length ≤ 4 * i)
      ⟨none, none, [], rfl, fun b o e1 e2 => b0 _ _ e1 (s0 _ _ e2), upd_same, by rw [upd_ne (Ne.symm ndn), upd_same]; rfl, Nat.le_refl _⟩ (fun i σ H2 _ ⟨_, _, _, _, _, h2, _⟩ => h2) ?_ ?_
    · rintro i v _ _ H2 hi ⟨u1, u2, G, rfl, s2, h2, hn2, hG⟩ ⟨rfl, k, v', a, hk, rfl, ha⟩
      obtain ⟨x, hx, rfl⟩ := dF_get hk
      rw [dF_len] at hi
      have hm : x ∈ F := List.mem_of_getElem? hx
      have ha2 := key_ti ha
      have hxl := hF.fc.len x hm
      refine ⟨_, rfl, a, x.map V.int, rfl, .inr (SqT.of ha2), ?_⟩
      refine ⟨_, rfl, ?_⟩
      refine rng1 (by rw [List.length_map]; omega) (for_it walk_r1 (fun j σ H4 => ∃ (u2 : Option V) (G : List (List Int)), σ = [some (.ref d), some (.ref n), some (.ref a), u2] ∧ (∀ b o, b ≠ d → H b = some o → H4 b = some o) ∧ H4 d = some (.frz od (.dT (dF F))) ∧ H4 n = some (.dT (dF G)) ∧ TI H4 a x ∧ G.length ≤ 4 * i + j)
        ⟨u2, G, rfl, s2, h2, hn2, ha2, by omega⟩ (fun _ _ _ _ _ => trivial) ?_ ?_)
      · rintro j y _ _ H4 hj ⟨u, G, rfl, s4, h4, hn4, ha4, hG4⟩ ⟨rfl, rfl⟩
        have hj' : j < x.length := by simpa using hj
        refine ⟨_, rfl, a, x, j, rfl, rfl, ha4, hj', by omega, fun H5 b s5 hb => ⟨n, _, rfl, DPut.t (k := ky (x.eraseIdx j)) (s5 _ _ hn4) (ti_key hb) (by rw [dF_len]; exact small_line (by omega)), ?_⟩⟩
        have nn : ∀ {c : Addr} {o : HO}, H c = some o → c ≠ n := fun e z => by subst z; rw [hn] at e; cases e
        refine ⟨_, insF G (x.eraseIdx j), rfl, fun c o e1 e2 => ?_, ?_, ?_, ?_, ?_⟩
        · rw [upd_ne (nn e2)]
          exact s5 _ _ (s4 c o e1 e2)
        · rw [upd_ne ndn]
          exact s5 _ _ h4
        · rw [upd_same, put_dF]
        · show upd _ _ _ _ = _
          rw [upd_ne]
          · exact s5 _ _ ha4
          · rintro rfl
            rw [show H4 a = _ from ha4] at hn4
            cases hn4
        · have := insF_len G (x.eraseIdx j)
          omega
      · rintro _ H4 ⟨u, G, rfl, s4, h4, hn4, ha4, hG4⟩
        have : (x.map V.int).length ≤ 4 := by simpa using hxl
        exact ⟨_, _, G, rfl, s4, h4, hn4, by simp at hG4; omega⟩
    · rintro _ H2 ⟨u1, u2, G, rfl, s2, h2, hn2, hG⟩
      refine ⟨h2, ?_⟩
      have sA : Same H (upd H2 d (.dT (dF F))) := But.back s2 hF.at'
      have hnA : upd H2 d (.dT (dF F)) n = some (.dT (dF G)) := by rw [upd_ne (Ne.symm ndn)]; exact hn2
      -- the comprehension
      refine ⟨d, _, sA _ _ hF.at', trivial, fun od2 => ⟨_, rfl, d, od2, rfl, .inr ⟨dF F, upd_same, fun D hD => ?_⟩⟩⟩
      generalize hH3 : upd H2 d (.dT (dF F)) = H3 at sA hnA hD
      have bA : But d H3 (upd H3 d (.frz od2 (.dT (dF F)))) := But.upd
      refine lc_it walk_keysT (fun i H4 => ∃ acc L, H4 D = some (.lst acc) ∧ TVs H4 acc L ∧ (∀ x ∈ L, x ∈ F) ∧ L.length ≤ i ∧ But d H3 H4 ∧ H4 d = some (.frz od2 (.dT (dF F)))) ?_ (fun i H4 _ ⟨_, _, _, _, _, _, _, h4⟩ => h4) ?_ ?_
      · have nDd : d ≠ D := by rintro rfl; rw [upd_same] at hD; cases hD
        exact ⟨[], [], upd_same, .nil, fun _ z => (nomatch z), Nat.le_refl _, bA.trans (But.of_same (same_upd hD)), by rw [upd_ne nDd, upd_same]⟩
      · rintro i v _ H4 hi ⟨acc, L, hD4, tv, hL, hl, b4, h4⟩ ⟨rfl, k, v', a, hk, rfl, ha⟩
        obtain ⟨x, hx, rfl⟩ := dF_get hk
        rw [dF_len] at hi
        have hm : x ∈ F := List.mem_of_getElem? hx
        have hn4 : H4 n = some (.dT (dF G)) := b4 _ _ (Ne.symm ndn) hnA
        have nDd : D ≠ d := by rintro rfl; rw [hD4] at h4; cases h4
        have h3D : H3 D = none := by rw [upd_ne nDd] at hD; exact hD
        refine ⟨rfl, _, rfl, _, rfl, n, _, rfl, DGet.t (k := ky x) hn4 ha, _, rfl, ?_⟩
        by_cases hG : x ∈ G
        · rw [show valV (dF G) (ky x) = some (.bl true) from val_some (fun _ => .bl true) hG]
          exact iteF ⟨acc, L, hD4, tv, hL, by omega, b4, h4⟩
        · rw [show valV (dF G) (ky x) = none from val_none (fun _ => .bl true) hG]
          refine iteT ⟨_, rfl, acc, hD4, ?_, acc ++ [.ref a], L ++ [x], upd_same, ?_, ?_, ?_, ?_, ?_⟩
          · rw [Paired.length tv]; exact small_line (by omega)
          · exact tvs_snoc (tv.but hD4 (fun _ z => nomatch z) But.upd) ⟨a, rfl, TI.but (key_ti ha) hD4 (fun _ z => nomatch z) But.upd⟩
          · intro y hy
            rcases List.mem_append.mp hy with z | z
            · exact hL y z
            · rw [List.mem_singleton.mp z]; exact hm
          · rw [List.length_append]; simpa using hl
          · intro b o e1 e2
            rw [upd_ne (ne_of_none e2 h3D)]
            exact b4 b o e1 e2
          · rw [upd_ne (Ne.symm nDd)]; exact h4
      · rintro H4 ⟨acc, L, hD4, tv, hL, hl, b4, h4⟩
        have sB : Same H3 (upd H4 d (.dT (dF F))) := But.back b4 (sA _ _ hF.at')
        have nDd : D ≠ d := by rintro rfl; rw [hD4] at h4; cases h4
        refine ⟨h4, ?_⟩
        dsimp only [tNil]
        refine sort_tvs (SqL.of (by rw [upd_ne nDd]; exact hD4)) (tv.but h4 (fun _ z => nomatch z) But.upd) (fun x hx => hF.fc.ne x (hL x hx)) fun ys p M tM pM hp => ?_
        refine ⟨p, ys, rfl, .inl ⟨SqL.of upd_same, fun t ht => ?_⟩⟩
        exact q _ t (Same.upd' (Same.upd' (sA.trans sB) hp) ht)
end
end K96

/-! The class Complex. -/
namespace K96
open PySem PySem.Spec PyProof.Rows L2

/-- what the walk asks of the class Complex as the top has made it -/
structure CxF (K : PySem.W.Frag) (mg : Str → Option Value) (C : Addr) : Prop where
  ins : C8.InsC K C
  nF : NoAttr K C "faces"
  nT : NoAttr K C "tops"
  mgC : mg "Complex" = some (.ref C)
theorem kft : ¬ (("faces" : Str) = "tops") := by decide +kernel
/-- a Complex stands at p, its faces' dict at d -/
structure Shp (C : Addr) (H : Hp) (p d : Addr) (F : List (List Int)) : Prop where
  ob : ∃ dx fs, H p = some (.ins C dx fs) ∧ fs.lookup ("faces" : Str) = some (.ref d)
  fd : FcD H d F
theorem Shp.same {C : Addr} {H H' : Hp} {p d : Addr} {F : List (List Int)} (h : Shp C H p d F) (s : Same H H') : Shp C H' p d F := by
  obtain ⟨⟨dx, fs, h1, h2⟩, h3⟩ := h
  exact ⟨⟨dx, fs, s _ _ h1, h2⟩, h3.same s⟩
theorem Drawn.fewS {S : List (List Int)} (d : Drawn S) : Few S := ⟨d.few, d.ne, d.len⟩
theorem Drawn.asc {S : List (List Int)} (d : Drawn S) {s : List Int} (h : s ∈ S) : Asc s := ⟨d.lo s h, fun v hv => by have := d.hi s h v hv; omega, d.up s h, d.ne s h, by have := d.len s h; omega⟩
theorem TVs.but' {D : Addr} {H H' : Hp} {u : HO} {xs : List V} {L : List (List Int)} (h : TVs H xs L) (hD : H D = some u) (hu : ∀ xs, u ≠ .tup xs) (s : ∀ b o, H b = some o → b ≠ D → H' b = some o) : TVs H' xs L := h.but hD hu fun b o e1 e2 => s b o e2 e1
section
variable {P : Program} {w : World} {K : PySem.W.Frag} {mg : Str → Option Value} {base : Heap} {C : Addr}

def spInit (C : Addr) : Sp := fun vs H Q _ => ∃ (p dx a : Addr) (xs : List V) (S : List (List Int)), vs = [.ref p, .ref a] ∧ H p = some (.ins C dx []) ∧ TupR H a xs ∧ TVs H xs S ∧ Drawn S ∧
  ∀ H' d F, But p H H' → Shp C H' p d F → IsFaces S F → Q .non H'
abbrev n_init : List Str := ["self", "simplices", "index", "simplex"]
theorem sc_init : FnScope n_init ["self", "simplices"] (defScope (inClass (top 22) 0)) := ⟨rfl, rfl, rfl, by decide +kernel, rfl, by decide +kernel, by decide +kernel⟩
theorem ok_init (N : Nm mg) (T : CxF K mg C) (gF : ∃ t, mg "MOST_FACES" = some (.int 400 t)) {f : Addr} {fd : FuncData} (F0 : Fun K "__init__" "Complex.__init__" (inClass (top 22) 0) f fd)
    (c1 : Cal P w K mg base "is_list" 1 ["value", "least", "most"] spIsList) (c2 : Cal P w K mg base "is_simplex" 4 ["value"] spIsSimplex)
    (c3 : Cal P w K mg base "generated" 2 ["simplices"] spGenerated) (c4 : Cal P w K mg base "maximal" 1 ["faces"] spMaximal) : FnOk P w K mg base CX0 5 f fd ["self", "simplices"] (spInit C) := by
  obtain ⟨f1, fd1, G_is_list, g_is_list, k_is_list, b_is_list⟩ := c1.ex
  obtain ⟨f2, fd2, G_is_simplex, g_is_simplex, k_is_simplex, b_is_simplex⟩ := c2.ex
  obtain ⟨f3, fd3, G_generated, g_generated, k_generated, b_generated⟩ := c3.ex
  obtain ⟨f4, fd4, G_maximal, g_maximal, k_maximal, b_maximal⟩ := c4.ex
  obtain ⟨tF, gF⟩ := gF
  refine F0.ok sc_init (fun vs H Q E h => ?_) (fun cdv A outer s H vs Q E hr h => ?_)
  · obtain ⟨p, dx, a, xs, S, rfl, _⟩ := h
    rfl
  · obtain ⟨p, dx, a, xs, S, rfl, hp, ha, tS, dr, q⟩ := h
    have hr1 : Room 1 _ := hr.mono (by decide)
    have hr2 : Room 2 _ := hr.mono (by decide)
    refine ⟨_, pss_cons (ps_if (pt_not (pt_val (pe_call G_is_list hr1 (by rfl) g_is_list k_is_list b_is_list .nil pass0 (pa_cons (pv 1) (pa_cons pe_int (pa_cons (pe_glob (v := .int 400) (by rfl) gF ⟨_, rfl⟩) pa_nil)))))) (pss_one ps_never) pss_nil)
      (pss_cons (ps_for PassesOwn.never rfl (pi_enumT (by rfl) N.enum (pa_cons (pv 1) pa_nil)) (pg_tup rfl (pgs_cons (pg_name (i := 2) sc_init.nd rfl (Or.inl rfl)) (pgs_cons (pg_name (i := 3) sc_init.nd rfl (Or.inl rfl)) pgs_nil)))
      (pss_one (ps_if (pt_not (pt_val (pe_call G_is_simplex hr (by rfl) g_is_simplex k_is_simplex b_is_simplex .nil pass0 (pa_cons (pv 3) pa_nil)))) (pss_one ps_never) pss_nil)))
      (pss_cons (ps_fld (pv 0) (pe_call G_generated hr2 (by rfl) g_generated k_generated b_generated .nil pass0 (pa_cons (pv 1) pa_nil)) rfl)
      (pss_one (ps_fld (pv 0) (pe_call G_maximal hr1 (by rfl) g_maximal k_maximal b_maximal .nil pass0 (pa_cons (pe_fld (pv 0) rfl) pa_nil)) rfl)))), ?_⟩
    have hlen := Paired.length tS
    have h15 := dr.few
    -- is_list
    refine ⟨_, rfl, a, xs, 0, 400, rfl, ha, _, rfl, ?_⟩
    have e1 : (decide ((0 : Int) ≤ (xs.length : Int)) && decide ((xs.length : Int) ≤ 400)) = true := by
      rw [decide_eq_true (by omega), decide_eq_true (by omega)]; rfl
    rw [e1]
    refine iteF ?_
    -- for index, simplex
    refine ⟨_, rfl, a, xs, rfl, ha.seq, for_it walk_enumT (fun i σ H2 => ∃ u1 u2 : Option V, σ = [some (.ref p), some (.ref a), u1, u2] ∧ Same H H2) ⟨none, none, rfl, Same.refl _⟩ (fun i σ H2 _ ⟨_, _, _, s2⟩ => TupR.seq (TupR.same s2 ha)) ?_ ?_⟩
    · rintro i v _ H2 H3 hi ⟨u1, u2, rfl, s2⟩ ⟨T1, z1, z2, rfl, hT, rfl, e2, hv⟩
      cases e2
      obtain ⟨x, hx, b, rfl, hb⟩ := tvs_at tS hv
      have hm : x ∈ S := List.mem_of_getElem? hx
      have s3 : Same H (upd H2 T1 (.tup [.int (i : Nat), .ref b])) := Same.upd' s2 hT
      refine ⟨T1, _, rfl, SqT.of upd_same, rfl, ?_⟩
      refine ⟨_, _, rfl, _, _, rfl, rfl, ?_⟩
      refine ⟨_, rfl, b, x, rfl, s3 _ _ hb, dr.asc hm, fun H4 s4 => ⟨_, rfl, ?_⟩⟩
      exact iteF ⟨_, _, rfl, s3.trans s4⟩
    · rintro _ H2 ⟨u1, u2, rfl, s2⟩
      -- self.faces = generated(simplices)
      refine ⟨_, rfl, a, xs, S, rfl, TupR.same s2 ha, tS.same s2, dr.fewS, fun H3 d F s3 hd2 hd hF hl => ?_⟩
      have sA := s2.trans s3
      have hpd : p ≠ d := ne_of_none (s2 _ _ hp) hd2
      refine ⟨_, rfl, p, C, dx, [], rfl, sA _ _ hp, T.ins.cl, T.nF, (by show 0 < 1000; decide), ?_⟩
      have fc : FcD H3 d F := ⟨hd, Fc.of dr hF hl⟩
      have fc2 : FcD (upd H3 p (.ins C dx (putF "faces" (.ref d) []))) d F := ⟨by rw [upd_ne (Ne.symm hpd)]; exact hd, fc.fc⟩
      -- self.tops = maximal(self.faces)
      refine ⟨_, rfl, p, C, dx, _, _, rfl, upd_same, T.ins.cl, T.nF, rfl, d, F, rfl, fc2, fun H4 t s4 => ?_⟩
      refine ⟨_, rfl, p, C, dx, _, rfl, s4 _ _ upd_same, T.ins.cl, T.nT, (by show 1 < 1000; decide), ?_⟩
      refine q _ d F (fun b o e1 e2 => ?_) ⟨⟨dx, _, upd_same, ?_⟩, ?_, fc.fc⟩ hF
      · rw [upd_ne e1]
        refine s4 _ _ ?_
        rw [upd_ne e1]
        exact sA _ _ e2
      · rw [lookup_putF, if_neg kft]; rfl
      · rw [upd_ne (Ne.symm hpd)]
        exact s4 _ _ fc2.at'

def spNeedComplex (C : Addr) : Sp := fun vs H Q _ => ∃ (p dx : Addr) (fs : List (Str × V)), vs = [.ref p] ∧ H p = some (.ins C dx fs) ∧ Q .non H
abbrev n_need_complex : List Str := ["value"]
theorem sc_need_complex : FnScope n_need_complex ["value"] (defScope (top 23)) := ⟨rfl, rfl, rfl, by decide +kernel, rfl, by decide +kernel, by decide +kernel⟩
theorem ok_need_complex (N : Nm mg) (T : CxF K mg C) (D : Def K mg "need_complex" (top 23)) : Cal P w K mg base "need_complex" 1 ["value"] (spNeedComplex C) := by
  refine D.ok sc_need_complex (fun vs H Q E h => ?_) (fun _ _ _ _ _ _ us hl => match us, hl with | [_], _ => rfl) (fun f cdv A outer s H vs Q E hr h => ?_)
  · obtain ⟨p, dx, fs, rfl, _⟩ := h
    rfl
  · obtain ⟨p, dx, fs, rfl, hp, q⟩ := h
    refine ⟨_, pss_one (ps_if (pt_not (pt_val (pe_callB (C8.call_isC T.ins) (by rfl) N.isinst (by decide +kernel) (pa_cons (pv 0) (pa_cons (pe_glob (v := .ref C) (by rfl) T.mgC rfl) pa_nil))))) (pss_one ps_never) pss_nil), ?_⟩
    refine ⟨_, rfl, p, dx, fs, rfl, hp, _, rfl, ?_⟩
    exact iteF q
end
end K96

/-! Plain: faces counted by dimension. -/
namespace K96
/-- how many have d + 1 vertices -/
def cntF (L : List (List Int)) (d : Nat) : Nat := L.countP fun x => x.length == d + 1
/-- the numbers for the dimensions below m -/
def cnts (L : List (List Int)) (m : Nat) : List Int := (List.range m).map fun d => (cntF L d : Int)
/-- m is the greatest length -/
structure IsDim (F : List (List Int)) (m : Nat) : Prop where
  le : ∀ x ∈ F, x.length ≤ m
  ex : m = 0 ∨ ∃ x ∈ F, x.length = m
theorem IsDim.le4 {F : List (List Int)} {m : Nat} (h : IsDim F m) (fc : Fc F) : m ≤ 4 := by
  rcases h.ex with e | ⟨x, hx, e⟩
  · omega
  · have := fc.len x hx; omega
theorem IsDim.uniq {F : List (List Int)} {m n : Nat} (h : IsDim F m) (g : IsDim F n) (fc : Fc F) : m = n := by
  have key : ∀ {a b : Nat}, IsDim F a → IsDim F b → a ≤ b := fun h g => by
    rcases h.ex with e | ⟨x, hx, e⟩
    · omega
    · have := g.le x hx; omega
  exact Nat.le_antisymm (key h g) (key g h)
/-- entry d of a table set to one more (or n more) -/
theorem set_tab {m e : Nat} (f : Nat → Int) (n : Int) (he : e < m) : ((List.range m).map f).set e (f e + n) = (List.range m).map fun d => f d + if d = e then n else 0 := by
  refine List.ext_getElem (by simp) fun i h1 h2 => ?_
  rw [List.getElem_set]
  simp only [List.getElem_map, List.getElem_range]
  by_cases h : e = i
  · subst h; simp
  · rw [if_neg h, if_neg (fun z => h z.symm)]; simp
theorem cntF_snoc (L : List (List Int)) (x : List Int) (d : Nat) : cntF (L ++ [x]) d = cntF L d + if x.length = d + 1 then 1 else 0 := by
  unfold cntF
  rw [List.countP_append, List.countP_singleton]
  simp
theorem cnts_set {L : List (List Int)} {x : List Int} {m e : Nat} (he : x.length = e + 1) (hm : e < m) : (cnts L m).set e (cntF L e + 1) = cnts (L ++ [x]) m := by
  unfold cnts
  rw [set_tab (fun d => (cntF L d : Int)) 1 hm]
  refine List.map_congr_left fun d _ => ?_
  rw [cntF_snoc, he]
  by_cases h : d = e
  · subst h; simp
  · rw [if_neg h, if_neg (by omega)]; simp
theorem cnts_nil (m : Nat) : cnts [] m = List.replicate m 0 := by
  unfold cnts
  refine List.ext_getElem (by simp) fun i h1 h2 => ?_
  simp [cntF]
theorem cnts_at {L : List (List Int)} {m e : Nat} (h : e < m) : (cnts L m)[e]? = some (cntF L e : Int) := by
  unfold cnts
  rw [List.getElem?_map, List.getElem?_range h]
  rfl
theorem cnts_len (L : List (List Int)) (m : Nat) : (cnts L m).length = m := by simp [cnts]
theorem cntF_perm {L M : List (List Int)} (p : L.Perm M) (d : Nat) : cntF L d = cntF M d := p.countP_eq _
end K96

/-! counts_in, euler_of. -/
namespace K96
open PySem PySem.Spec PyProof.Rows L2
section
variable {P : Program} {w : World} {K : PySem.W.Frag} {mg : Str → Option Value} {base : Heap} {C : Addr}

theorem flat_one {n : Nat} {v : V} : (List.replicate n [v]).flatten = List.replicate n v := by
  induction n with
  | zero => rfl
  | succ n ih => rw [List.replicate_succ, List.flatten_cons, ih]; rfl
def spCountsIn (C : Addr) : Sp := fun vs H Q _ => ∃ (p d : Addr) (F : List (List Int)), vs = [.ref p] ∧ Shp C H p d F ∧
  ∀ H' l m, Same H H' → H l = none → H' l = some (.lst ((cnts F m).map V.int)) → IsDim F m → Q (.ref l) H'
abbrev n_counts_in : List Str := ["shape", "most", "found", "simplex"]
theorem sc_counts_in : FnScope n_counts_in ["shape"] (defScope (top 24)) := ⟨rfl, rfl, rfl, by decide +kernel, rfl, by decide +kernel, by decide +kernel⟩
theorem ok_counts_in (N : Nm mg) (T : CxF K mg C) (D : Def K mg "counts_in" (top 24)) : Cal P w K mg base "counts_in" 1 ["shape"] (spCountsIn C) := by
  refine D.ok sc_counts_in (fun vs H Q E h => ?_) (fun _ _ _ _ _ _ us hl => match us, hl with | [_], _ => rfl) (fun f cdv A outer s H vs Q E hr h => ?_)
  · obtain ⟨p, d, F, rfl, _⟩ := h
    rfl
  · obtain ⟨p, d, F, rfl, sh, q⟩ := h
    obtain ⟨⟨dx, fs, hp, hfs⟩, hF⟩ := id sh
    have hd := hF.at'
    have npd : p ≠ d := ne_of hp hd (by intro z; cases z)
    have hFl := hF.fc.few
    refine ⟨_, pss_cons (ps_set (i := 1) sc_counts_in.nd rfl (Or.inl rfl) (pe_callB (cr_max rfl) (by rfl) N.max (by decide +kernel) (pa_cons (pe_op op_cat (pe_lock (pe_lc (own := [("simplex", 3)]) (g := gName 3) (tt := tYes) rfl sc_counts_in.nd (pi_keys (pe_fld (pv 0) rfl)) (blkOk_by (N := n_counts_in) (sc := defScope (top 24)) (by decide +kernel)) (fun _ _ _ _ _ => (pg_name (i := 3) sc_counts_in.nd rfl (Or.inl rfl))) (fun _ _ _ _ _ => pts_nil) (fun _ _ _ _ _ => by exact (pe_callB (call_lenK (K := K) rfl) (by rfl) N.len PySem.boot_len (pa_cons (pv 3) pa_nil))))) (pe_lst (pa_cons pe_int pa_nil))) pa_nil)))
      (pss_cons (ps_set (i := 2) sc_counts_in.nd rfl (Or.inl rfl) (pe_op op_rep (pe_lst (pa_cons pe_int pa_nil)) (pv 1)))
      (pss_cons (ps_lock (ps_for PassesOwn.never rfl (pi_keys (pe_fld (pv 0) rfl)) (pg_name (i := 3) sc_counts_in.nd rfl (Or.inl rfl))
      (pss_one (ps_augS (pv 2) (pe_op op_sub (pe_callB (call_lenK (K := K) rfl) (by rfl) N.len PySem.boot_len (pa_cons (pv 3) pa_nil)) pe_int) get_list pe_int ip_add set_list))))
      (pss_one (ps_ret (pv 2))))), ?_⟩
    -- the lengths
    refine ⟨d, _, hd, trivial, fun od => ⟨_, rfl, p, C, dx, fs, _, rfl, by rw [upd_ne npd]; exact hp, T.ins.cl, T.nF, hfs, d, od, rfl, .inr ⟨dF F, upd_same, fun D1 hD => ?_⟩⟩⟩
    have bA : But d H (upd H d (.frz od (.dT (dF F)))) := But.upd
    have nDd : D1 ≠ d := by rintro rfl; rw [upd_same] at hD; cases hD
    have hD0 : H D1 = none := by rwa [upd_ne nDd] at hD
    refine lc_it walk_keysT (fun i H4 => H4 D1 = some (.lst (((F.take i).map fun x => (x.length : Int)).map V.int)) ∧ But d H H4 ∧ H4 d = some (.frz od (.dT (dF F)))) ?_ (fun i H4 _ ⟨_, _, h4⟩ => h4) ?_ ?_
    · exact ⟨upd_same, bA.trans (But.of_same (same_upd hD)), by rw [upd_ne (Ne.symm nDd), upd_same]⟩
    · rintro i v _ H4 hi ⟨hD4, b4, h4⟩ ⟨rfl, k, v', a, hk, rfl, ha⟩
      obtain ⟨x, hx, rfl⟩ := dF_get hk
      rw [dF_len] at hi
      refine ⟨rfl, _, rfl, a, _, rfl, .inr (SqT.of (key_ti ha)), _, hD4, ?_, ?_, ?_, ?_⟩
      · exact small_line (by simp; omega)
      · rw [upd_same, take_snoc hx, List.map_append, List.map_append]
        simp
      · intro b o e1 e2
        rw [upd_ne (ne_of_none e2 hD0)]
        exact b4 b o e1 e2
      · rw [upd_ne (Ne.symm nDd)]; exact h4
    · rintro H4 ⟨hD4, b4, h4⟩
      rw [dF_len, List.take_length] at hD4
      have sB : Same H (upd H4 d (.dT (dF F))) := But.back b4 hd
      refine ⟨h4, ?_⟩
      dsimp only [tNil]
      refine ⟨by simp [sizeLine_eq], fun b hb => ?_⟩
      have hDB : upd H4 d (.dT (dF F)) D1 = some (.lst ((F.map fun x => (x.length : Int)).map V.int)) := by rw [upd_ne nDd]; exact hD4
      refine ⟨D1, b, _, _, rfl, rfl, same_upd hb _ _ hDB, upd_same, by simp [sizeLine_eq]; omega, fun r hr => ?_⟩
      refine ⟨r, (F.map fun x => (x.length : Int)) ++ [0], rfl, SqL.of ?_, by simp, fun m hm hle => ?_⟩
      · rw [upd_same, List.map_append]; rfl
      have sC : Same H (upd (upd (upd H4 d (.dT (dF F))) b (.lst [.int 0])) r (.lst ((F.map fun x => (x.length : Int)).map V.int ++ [.int 0]))) := Same.upd' (Same.upd' sB hb) hr
      have m0 : 0 ≤ m := hle 0 (by simp)
      obtain ⟨n, rfl⟩ : ∃ n : Nat, m = n := ⟨m.toNat, by omega⟩
      have hdim : IsDim F n := by
        refine ⟨fun x hx => ?_, ?_⟩
        · have := hle (x.length : Int) (List.mem_append_left _ (List.mem_map.mpr ⟨x, hx, rfl⟩))
          omega
        · rcases List.mem_append.mp hm with hm | hm
          · obtain ⟨x, hx, e⟩ := List.mem_map.mp hm
            exact .inr ⟨x, hx, by omega⟩
          · simp at hm
            exact .inl (by omega)
      have n4 := hdim.le4 hF.fc
      -- found = [0] * most
      refine ⟨by simp [sizeLine_eq], fun b2 hb2 => ⟨_, rfl, b2, n, _, rfl, rfl, upd_same, by omega, by omega, by simp [sizeLine_eq]; omega, fun l hl => ?_⟩⟩
      have sD := Same.upd' (Same.upd' (o := .lst [.int 0]) sC hb2) (o := .lst ((List.replicate (n : Int).toNat [V.int 0]).flatten)) hl
      have lH : H l = none := (Same.upd' (o := .lst [.int 0]) sC hb2).free hl
      have nld : l ≠ d := by rintro rfl; rw [hd] at lH; cases lH
      -- for simplex in shape.faces
      have hd5 := sD _ _ hd
      have hp5 := sD _ _ hp
      have hl5 : upd (upd (upd (upd (upd H4 d (.dT (dF F))) b (.lst [.int 0])) r (.lst ((F.map fun x => (x.length : Int)).map V.int ++ [.int 0]))) b2 (.lst [.int 0])) l (.lst ((List.replicate (n : Int).toNat [V.int 0]).flatten)) l = some (.lst ((cnts [] n).map V.int)) := by
        rw [upd_same, flat_one, cnts_nil]
        simp
      generalize upd (upd (upd (upd (upd H4 d (.dT (dF F))) b (.lst [.int 0])) r (.lst ((F.map fun x => (x.length : Int)).map V.int ++ [.int 0]))) b2 (.lst [.int 0])) l (.lst ((List.replicate (n : Int).toNat [V.int 0]).flatten)) = H5 at sD hd5 hp5 hl5
      refine ⟨d, _, hd5, trivial, fun od2 => ⟨_, rfl, p, C, dx, fs, _, rfl, by rw [upd_ne npd]; exact hp5, T.ins.cl, T.nF, hfs, d, od2, rfl, .inr ⟨dF F, upd_same, ?_⟩⟩⟩
      refine for_it walk_keysT (fun i σ H6 => ∃ u : Option V, σ = [some (.ref p), some (.int n), some (.ref l), u] ∧ (∀ b o, b ≠ d → H b = some o → H6 b = some o) ∧ H6 d = some (.frz od2 (.dT (dF F))) ∧ H6 l = some (.lst ((cnts (F.take i) n).map V.int)))
        ⟨none, rfl, fun b o e1 e2 => by rw [upd_ne e1]; exact sD _ _ e2, upd_same, by rw [upd_ne nld]; exact hl5⟩ (fun i σ H6 _ ⟨_, _, _, h6, _⟩ => h6) ?_ ?_
      · rintro i v _ _ H6 hi ⟨u, rfl, s6, h6, hl6⟩ ⟨rfl, k, v', a, hk, rfl, ha⟩
        obtain ⟨x, hx, rfl⟩ := dF_get hk
        have hm : x ∈ F := List.mem_of_getElem? hx
        obtain ⟨e, he⟩ : ∃ e, x.length = e + 1 := by
          have := hF.fc.ne x hm
          cases x with
          | nil => exact absurd rfl this
          | cons y ys => exact ⟨ys.length, rfl⟩
        have hen : e < n := by have := hdim.le x hm; omega
        have hix : (V.int (((x.map V.int).length : Nat) - 1) : V) = .int (e : Int) := by
          rw [List.length_map, he]
          congr 1
          omega
        refine ⟨_, rfl, _, rfl, a, _, rfl, .inr (SqT.of (key_ti ha)), _, _, rfl, rfl, l, _, e, .int (cntF (F.take i) e), rfl, hix, SqL.of hl6, ?_, ?_⟩
        · rw [List.getElem?_map, cnts_at hen]; rfl
        refine ⟨_, _, rfl, rfl, l, _, _, e, rfl, hix, hl6, ?_, ?_⟩
        · unfold ixN
          rw [List.length_map, cnts_len]
          simp [hen]
        refine ⟨_, rfl, fun b o e1 e2 => ?_, ?_, ?_⟩
        · rw [upd_ne (ne_of_none e2 lH)]; exact s6 b o e1 e2
        · rw [upd_ne (Ne.symm nld)]; exact h6
        · rw [upd_same, take_snoc hx, ← cnts_set he hen, List.map_set]
      · rintro _ H6 ⟨u, rfl, s6, h6, hl6⟩
        rw [dF_len, List.take_length] at hl6
        refine ⟨h6, ?_⟩
        exact ⟨_, rfl, q _ l n (But.back s6 hd) lH (by rw [upd_ne nld]; exact hl6) hdim⟩

theorem evn_map {α β : Type} (f : α → β) : ∀ l : List α, evn (l.map f) = (evn l).map f
  | [] => rfl
  | [x] => rfl
  | x :: y :: r => by
    show f x :: evn (r.map f) = f x :: (evn r).map f
    rw [evn_map f r]
/-- every second less every other, less one -/
def eul (l : List Int) : Int := (evn l).sum - (evn l.tail).sum - 1
def spEulerOf (C : Addr) : Sp := fun vs H Q _ => ∃ (p d : Addr) (F : List (List Int)), vs = [.ref p] ∧ Shp C H p d F ∧
  ∀ H' m, Same H H' → IsDim F m → Q (.int (eul (cnts F m))) H'
abbrev n_euler_of : List Str := ["shape", "counts"]
theorem sc_euler_of : FnScope n_euler_of ["shape"] (defScope (top 25)) := ⟨rfl, rfl, rfl, by decide +kernel, rfl, by decide +kernel, by decide +kernel⟩
theorem ok_euler_of (N : Nm mg) (D : Def K mg "euler_of" (top 25)) (c1 : Cal P w K mg base "need_complex" 1 ["value"] (spNeedComplex C)) (c2 : Cal P w K mg base "counts_in" 1 ["shape"] (spCountsIn C)) : Cal P w K mg base "euler_of" 2 ["shape"] (spEulerOf C) := by
  obtain ⟨f1, fd1, G_need_complex, g_need_complex, k_need_complex, b_need_complex⟩ := c1.ex
  obtain ⟨f2, fd2, G_counts_in, g_counts_in, k_counts_in, b_counts_in⟩ := c2.ex
  refine D.ok sc_euler_of (fun vs H Q E h => ?_) (fun _ _ _ _ _ _ us hl => match us, hl with | [_], _ => rfl) (fun f cdv A outer s H vs Q E hr h => ?_)
  · obtain ⟨p, d, F, rfl, _⟩ := h
    rfl
  · obtain ⟨p, d, F, rfl, sh, q⟩ := h
    obtain ⟨⟨dx, fs, hp, hfs⟩, hF⟩ := id sh
    refine ⟨_, pss_cons (ps_expr (pe_call G_need_complex hr (by rfl) g_need_complex k_need_complex b_need_complex .nil pass0 (pa_cons (pv 0) pa_nil)))
      (pss_cons (ps_set (i := 1) sc_euler_of.nd rfl (Or.inl rfl) (pe_call G_counts_in hr (by rfl) g_counts_in k_counts_in b_counts_in .nil pass0 (pa_cons (pv 0) pa_nil)))
      (pss_one (ps_ret (pe_op op_sub (pe_op op_sub (pe_callB (cr_sum rfl) (by rfl) N.sum (by decide +kernel) (pa_cons (pe_evn (pv 1)) pa_nil)) (pe_callB (cr_sum rfl) (by rfl) N.sum (by decide +kernel) (pa_cons (pe_odd (pv 1)) pa_nil))) pe_int)))), ?_⟩
    refine ⟨_, rfl, p, dx, fs, rfl, hp, ?_⟩
    refine ⟨_, rfl, p, d, F, rfl, sh, fun H2 l m s2 hl2 hl dm => ?_⟩
    have m4 := dm.le4 hF.fc
    have hlen : ((cnts F m).map V.int).length ≤ 4 := by rw [List.length_map, cnts_len]; exact m4
    refine ⟨_, rfl, l, _, rfl, SqL.of hl, hlen, fun a ha => ?_⟩
    refine ⟨a, evn (cnts F m), rfl, SqL.of (by rw [upd_same, ← evn_map]; rfl), ?_⟩
    refine ⟨_, rfl, l, _, rfl, SqL.of (same_upd ha _ _ hl), hlen, fun b hb => ?_⟩
    refine ⟨b, evn (cnts F m).tail, rfl, SqL.of (by rw [upd_same, ← evn_map, List.map_tail]; rfl), ?_⟩
    exact ⟨_, _, rfl, rfl, _, _, rfl, rfl, q _ m (Same.upd' (Same.upd' s2 ha) hb) dm⟩
end
end K96

/-! Plain: pairs of faces. -/
namespace K96
abbrev Fa := List Int
/-- the faces of the pairs, in their order -/
def ends (M : List (Fa × Fa)) : List Fa := M.flatMap fun p => [p.1, p.2]
theorem ends_snoc (M : List (Fa × Fa)) (p : Fa × Fa) : ends (M ++ [p]) = ends M ++ [p.1, p.2] := by simp [ends]
theorem mem_ends {M : List (Fa × Fa)} {x : Fa} : x ∈ ends M ↔ ∃ p ∈ M, x = p.1 ∨ x = p.2 := by simp [ends]
/-- x is y without one vertex -/
def Dn (x y : Fa) : Prop := ∃ i, i < y.length ∧ x = y.eraseIdx i
/-- disjoint pairs of a face and a facet of it -/
structure Mat (F : List Fa) (M : List (Fa × Fa)) : Prop where
  big : ∀ p ∈ M, p.2 ∈ F
  two : ∀ p ∈ M, 2 ≤ p.2.length
  down : ∀ p ∈ M, Dn p.1 p.2
  nd : (ends M).Nodup
theorem Dn.sub {x y : Fa} (h : Dn x y) : x.Sublist y := by
  obtain ⟨i, _, rfl⟩ := h
  exact List.eraseIdx_sublist ..
theorem Dn.len {x y : Fa} (h : Dn x y) : x.length + 1 = y.length := by
  obtain ⟨i, hi, rfl⟩ := h
  rw [List.length_eraseIdx_of_lt hi]
  omega
theorem Mat.small {F : List Fa} {M : List (Fa × Fa)} (m : Mat F M) (fc : Fc F) {p : Fa × Fa} (hp : p ∈ M) : p.1 ∈ F := by
  have h2 := m.two p hp
  have hl := (m.down p hp).len
  refine fc.cl _ (m.big p hp) _ (fun z => ?_) (m.down p hp).sub
  rw [z] at hl
  simp at hl
  omega
theorem Mat.take {F : List Fa} {M : List (Fa × Fa)} (m : Mat F M) (n : Nat) : Mat F (M.take n) where
  big := fun p hp => m.big p (List.mem_of_mem_take hp)
  two := fun p hp => m.two p (List.mem_of_mem_take hp)
  down := fun p hp => m.down p (List.mem_of_mem_take hp)
  nd := by
    refine List.Nodup.sublist ?_ m.nd
    have e : ends M = ends (M.take n) ++ ends (M.drop n) := by rw [ends, ends, ends, ← List.flatMap_append, List.take_append_drop]
    rw [e]
    exact List.sublist_append_left ..
theorem ends_length (M : List (Fa × Fa)) : (ends M).length = 2 * M.length := by
  induction M with
  | nil => rfl
  | cons p r ih =>
    show ([p.1, p.2] ++ ends r).length = _
    rw [List.length_append, ih]
    simp
    omega
theorem nodup_sub_length {α : Type} [DecidableEq α] : ∀ {l m : List α}, l.Nodup → (∀ x ∈ l, x ∈ m) → l.length ≤ m.length
  | [], _, _, _ => Nat.zero_le _
  | a :: r, m, h, hm => by
    have hn := List.nodup_cons.mp h
    have ha := hm a List.mem_cons_self
    have hr : ∀ x ∈ r, x ∈ m.erase a := fun x hx => by
      refine (List.mem_erase_of_ne ?_).mpr (hm x (List.mem_cons_of_mem _ hx))
      rintro rfl
      exact hn.1 hx
    have := nodup_sub_length hn.2 hr
    rw [List.length_erase_of_mem ha] at this
    have hp : 0 < m.length := List.length_pos_of_mem ha
    rw [List.length_cons]
    omega
theorem Mat.few {F : List Fa} {M : List (Fa × Fa)} (m : Mat F M) (fc : Fc F) : 2 * M.length ≤ 225 := by
  rw [← ends_length]
  refine Nat.le_trans (nodup_sub_length m.nd fun x hx => ?_) fc.few
  obtain ⟨p, hp, e | e⟩ := mem_ends.mp hx
  · rw [e]; exact m.small fc hp
  · rw [e]; exact m.big p hp
theorem Mat.fsts {F : List Fa} {M : List (Fa × Fa)} (m : Mat F M) : (M.map (·.1)).Nodup := by
  have h := m.nd
  clear m
  induction M with
  | nil => exact List.nodup_nil
  | cons p r ih =>
    have h' : ([p.1, p.2] ++ ends r).Nodup := h
    rw [List.nodup_append] at h'
    rw [List.map_cons, List.nodup_cons]
    refine ⟨fun z => ?_, ih h'.2.1⟩
    obtain ⟨q, hq, e⟩ := List.mem_map.mp z
    exact h'.2.2 p.1 (by simp) q.1 (mem_ends.mpr ⟨q, hq, .inl rfl⟩) e.symm
end K96

/-! The tuples over 0..6: unlike hashes. -/
namespace K96
open PySem PySem.Spec PyProof.Rows L2

def v7 : List Int := [0, 1, 2, 3, 4, 5, 6]
/-- the hash of a tuple of ints -/
def hT (x : List Int) : Int := reduceHash (Builtin.Tuple.tupleHashOf (x.map hashInt))
theorem hT_eq (P : Program) (w : World) (x : List Int) : (tupleKind (mixKind P w)).hash (ky x) = hT x := by
  show reduceHash (Builtin.Tuple.tupleHashOf ((ky x).map (mixKind P w).hash)) = _
  unfold hT ky
  rw [List.map_map]
  rfl
theorem hT_nd : ((ptsF v7).map hT).Nodup := by decide +kernel
theorem inj_map {α β : Type} {f : α → β} : ∀ {l : List α}, (l.map f).Nodup → ∀ a ∈ l, ∀ b ∈ l, f a = f b → a = b
  | [], _, a, ha, _, _, _ => nomatch ha
  | x :: r, h, a, ha, b, hb, e => by
    rw [List.map_cons, List.nodup_cons] at h
    rcases List.mem_cons.mp ha with ea | ha
    · rcases List.mem_cons.mp hb with eb | hb
      · rw [ea, eb]
      · exact absurd (List.mem_map.mpr ⟨b, hb, by rw [← ea]; exact e.symm⟩) h.1
    · rcases List.mem_cons.mp hb with eb | hb
      · exact absurd (List.mem_map.mpr ⟨a, ha, by rw [← eb]; exact e⟩) h.1
      · exact inj_map h.2 a ha b hb e
theorem sub_sorted : ∀ (l x : List Int), l.Pairwise (· < ·) → x.Pairwise (· < ·) → (∀ v ∈ x, v ∈ l) → x.Sublist l
  | _, [], _, _, _ => List.nil_sublist _
  | [], a :: r, _, _, h => nomatch h a List.mem_cons_self
  | c :: l, a :: r, hl, hx, h => by
    have hl' := List.pairwise_cons.mp hl
    have hx' := List.pairwise_cons.mp hx
    by_cases e : a = c
    · subst e
      refine (sub_sorted l r hl'.2 hx'.2 fun v hv => ?_).cons_cons a
      rcases List.mem_cons.mp (h v (List.mem_cons_of_mem _ hv)) with z | z
      · have := hx'.1 v hv
        omega
      · exact z
    · refine (sub_sorted l (a :: r) hl'.2 hx fun v hv => ?_).cons c
      have ha : a ∈ l := (List.mem_cons.mp (h a List.mem_cons_self)).resolve_left e
      have hca := hl'.1 a ha
      rcases List.mem_cons.mp (h v hv) with z | z
      · rcases List.mem_cons.mp hv with y | y
        · omega
        · have := hx'.1 v y
          omega
      · exact z
theorem in_v7 {v : Int} (h0 : 0 ≤ v) (h6 : v ≤ 6) : v ∈ v7 := by
  have : v = 0 ∨ v = 1 ∨ v = 2 ∨ v = 3 ∨ v = 4 ∨ v = 5 ∨ v = 6 := by omega
  simpa [v7] using this
theorem sub_v7 {x : List Int} (hlo : ∀ v ∈ x, 0 ≤ v) (hhi : ∀ v ∈ x, v ≤ 6) (hup : x.Pairwise (· < ·)) : x.Sublist v7 :=
  sub_sorted v7 x (by decide) hup fun v hv => in_v7 (hlo v hv) (hhi v hv)
theorem hT_inj {x y : List Int} (hx : x.Sublist v7) (hy : y.Sublist v7) (h : hT x = hT y) : x = y := inj_map hT_nd x ((ptsF_mem _ _).mpr hx) y ((ptsF_mem _ _).mpr hy) h
end K96

/-! is_pairing. -/
namespace K96
open PySem PySem.Spec PyProof.Rows L2

theorem ifF {b : Bool} {A B : Prop} (e : b = false) (h : B) : if b = true then A else B := by
  subst e
  exact iteF h
theorem ifT {b : Bool} {A B : Prop} (e : b = true) (h : A) : if b = true then A else B := by
  subst e
  exact iteT h
theorem ne_ints {i j : Int} (h : i = j) : (!decide (V.int i = V.int j)) = false := by
  subst h
  simp
theorem nodup_mapI {α β : Type} {f : α → β} (hf : ∀ a b, f a = f b → a = b) : ∀ {l : List α}, l.Nodup → (l.map f).Nodup
  | [], _ => List.nodup_nil
  | a :: r, h => by
    have h' := List.nodup_cons.mp h
    rw [List.map_cons, List.nodup_cons]
    refine ⟨fun z => ?_, nodup_mapI hf h'.2⟩
    obtain ⟨b, hb, e⟩ := List.mem_map.mp z
    rw [hf b a e] at hb
    exact h'.1 hb
/-- a pair of faces as a tuple of tuples -/
def PrT (H : Hp) (v : V) (p : Fa × Fa) : Prop := ∃ t a b, v = .ref t ∧ H t = some (.tup [.ref a, .ref b]) ∧ TI H a p.1 ∧ TI H b p.2
theorem PrT.same {H H' : Hp} (e : Same H H') {v : V} {p : Fa × Fa} (h : PrT H v p) : PrT H' v p := by
  obtain ⟨t, a, b, e1, e2, e3, e4⟩ := h
  exact ⟨t, a, b, e1, e _ _ e2, e _ _ e3, e _ _ e4⟩
abbrev PrTs (H : Hp) (xs : List V) (M : List (Fa × Fa)) : Prop := Paired (PrT H) xs M
theorem PrTs.same {H H' : Hp} (e : Same H H') {xs : List V} {M : List (Fa × Fa)} (h : PrTs H xs M) : PrTs H' xs M := Paired.mapP h fun _ _ z => z.same e
theorem tup_but {D : Addr} {H H' : Hp} {u : HO} {b : Addr} {ys : List V} (h : H b = some (.tup ys)) (hD : H D = some u) (hu : ∀ xs, u ≠ .tup xs) (s : But D H H') : H' b = some (.tup ys) := by
  refine s b _ ?_ h
  rintro rfl
  rw [hD] at h
  exact hu _ (Option.some.inj h)
theorem PrT.but {D : Addr} {H H' : Hp} {u : HO} {v : V} {p : Fa × Fa} (h : PrT H v p) (hD : H D = some u) (hu : ∀ xs, u ≠ .tup xs) (s : But D H H') : PrT H' v p := by
  obtain ⟨t, a, b, e1, e2, e3, e4⟩ := h
  exact ⟨t, a, b, e1, tup_but e2 hD hu s, tup_but e3 hD hu s, tup_but e4 hD hu s⟩
theorem PrTs.but {D : Addr} {H H' : Hp} {u : HO} {xs : List V} {M : List (Fa × Fa)} (h : PrTs H xs M) (hD : H D = some u) (hu : ∀ xs, u ≠ .tup xs) (s : But D H H') : PrTs H' xs M := Paired.mapP h fun _ _ z => z.but hD hu s
theorem in_ints {z : Int} {x : List Int} (h : z ∈ x) : inV (.int z) (x.map V.int) = true := by
  unfold inV
  rw [List.any_eq_true]
  exact ⟨.int z, List.mem_map.mpr ⟨z, h, rfl⟩, by simp [eqV]⟩
theorem flat_ints (x : List Int) : (x.map V.int).all flatV = true := by
  rw [List.all_eq_true]
  intro v hv
  obtain ⟨z, _, rfl⟩ := List.mem_map.mp hv
  rfl
theorem Fc.asc {F : List Fa} (fc : Fc F) {x : Fa} (h : x ∈ F) : Asc x :=
  ⟨fc.lo x h, fun v hv => by have := fc.hi x h v hv; omega, fc.up x h, by have := fc.ne x h; exact List.length_pos_iff.mpr this, by have := fc.len x h; omega⟩
theorem Fc.sub7 {F : List Fa} (fc : Fc F) {x : Fa} (h : x ∈ F) : x.Sublist v7 := sub_v7 (fc.lo x h) (fc.hi x h) (fc.up x h)
section
variable {P : Program} {w : World} {K : PySem.W.Frag} {mg : Str → Option Value} {base : Heap} {C : Addr}

def spIsPairing (C : Addr) : Sp := fun vs H Q _ => ∃ (p d t : Addr) (F : List Fa) (ps : List V) (M : List (Fa × Fa)), vs = [.ref p, .ref t] ∧ Shp C H p d F ∧ PlT H t ps ∧ PrTs H ps M ∧ Mat F M ∧
  ∀ H', Same H H' → Q (.bl true) H'
abbrev n_is_pairing : List Str := ["shape", "pairs", "met", "pair", "one"]
theorem sc_is_pairing : FnScope n_is_pairing ["shape", "pairs"] (defScope (top 27)) := ⟨rfl, rfl, rfl, by decide +kernel, rfl, by decide +kernel, by decide +kernel⟩
theorem ok_is_pairing (N : Nm mg) (T : CxF K mg C) (D : Def K mg "is_pairing" (top 27)) (c1 : Cal P w K mg base "is_list" 1 ["value", "least", "most"] spIsList) (c2 : Cal P w K mg base "is_simplex" 4 ["value"] spIsSimplex) :
    Cal P w K mg base "is_pairing" 5 ["shape", "pairs"] (spIsPairing C) := by
  obtain ⟨f1, fd1, G_is_list, g_is_list, k_is_list, b_is_list⟩ := c1.ex
  obtain ⟨f2, fd2, G_is_simplex, g_is_simplex, k_is_simplex, b_is_simplex⟩ := c2.ex
  refine D.ok sc_is_pairing (fun vs H Q E h => ?_) (fun _ _ _ _ _ _ us hl => match us, hl with | [_, _], _ => rfl) (fun f cdv A outer s H vs Q E hr h => ?_)
  · obtain ⟨p, d, t, F, ps, M, rfl, _⟩ := h
    rfl
  · obtain ⟨p, d, t, F, ps, M, rfl, sh, ht, tM, mat, q⟩ := h
    obtain ⟨⟨dx, fs, hp, hfs⟩, hF⟩ := id sh
    have hd := hF.at'
    have npd : p ≠ d := ne_of hp hd (by intro z; cases z)
    have hr1 : Room 1 _ := hr.mono (by decide)
    have hr4 : Room 4 _ := hr
    have hu := hu_of hr
    have hu0 : (A.deeper (envOfC "is_pairing" (defScope (top 27)) s.heap.objs.size f cdv)).units < cLine := by have := hr.units; omega
    refine ⟨_, pss_cons (ps_if (pt_not (pt_val (pe_callB call_isi (by rfl) N.isinst (by decide +kernel) (pa_cons (pv 1) (pa_cons (pe_bltn (v := .ty "tuple") (by rfl) N.tuple (by decide +kernel) rfl) pa_nil))))) (pss_one (ps_ret pe_bl)) pss_nil)
      (pss_cons (ps_set (i := 2) sc_is_pairing.nd rfl (Or.inl rfl) pe_dnewT)
      (pss_cons (ps_for PassesOwn.never rfl (pi_tup (pv 1)) (pg_name (i := 3) sc_is_pairing.nd rfl (Or.inr rfl))
      (pss_cons (ps_if (PW.pt (pw_or (pt_not (pt_val (pe_call G_is_list hr1 (by rfl) g_is_list k_is_list b_is_list .nil pass0 (pa_cons (pv 3) (pa_cons pe_int (pa_cons pe_int pa_nil)))))) (pw_or (pt_not (pt_val (pe_call G_is_simplex hr4 (by rfl) g_is_simplex k_is_simplex b_is_simplex .nil pass0 (pa_cons (pe_ix ix_tup (pv 3) pe_int (fun _ _ => rfl)) pa_nil)))) (pw_or1 (pt_not (pt_val (pe_call G_is_simplex hr4 (by rfl) g_is_simplex k_is_simplex b_is_simplex .nil pass0 (pa_cons (pe_ix (ix_tupK (K := K) rfl) (pv 3) pe_int (fun _ _ => rfl)) pa_nil)))))))) (pss_one (ps_ret pe_bl)) pss_nil)
      (pss_cons (ps_if (PW.pt (pw_or (pt_cmp (pc_dnotin hu (pe_ix (ix_tupK (K := K) rfl) (pv 3) pe_int (fun _ _ => rfl)) (pe_fld (pv 0) rfl))) (pw_or1 (pt_cmpR op_ne (pe_callB call_len_seq (by rfl) N.len PySem.boot_len (pa_cons (pe_ix (ix_tupK (K := K) rfl) (pv 3) pe_int (fun _ _ => rfl)) pa_nil)) (pe_op op_add (pe_callB call_len_seq (by rfl) N.len PySem.boot_len (pa_cons (pe_ix ix_tup (pv 3) pe_int (fun _ _ => rfl)) pa_nil)) pe_int) (nomark _))))) (pss_one (ps_ret pe_bl)) pss_nil)
      (pss_cons (ps_if (pt_val (pe_callB (cr_any rfl) (by rfl) N.any (by decide +kernel) (pa_cons (pe_lc (own := [("one", 4)]) (g := gName 4) (tt := tYes) rfl sc_is_pairing.nd (pi_tup (pe_ix ix_tup (pv 3) pe_int (fun _ _ => rfl))) (blkOk_by (N := n_is_pairing) (sc := defScope (top 27)) (by decide +kernel)) (fun _ _ _ _ _ => (pg_name (i := 4) sc_is_pairing.nd rfl (Or.inl rfl))) (fun _ _ _ _ _ => pts_nil) (fun _ _ _ _ _ => by exact (pe_cmpR (op_notInSK (K := K) rfl) (pv 4) (pe_ix (ix_tupK (K := K) rfl) (pv 3) pe_int (fun _ _ => rfl)) rfl))) pa_nil))) (pss_one (ps_ret pe_bl)) pss_nil)
      (pss_cons (ps_if (PW.pt (pw_or (pt_cmp (pc_din hu (pe_ix ix_tup (pv 3) pe_int (fun _ _ => rfl)) (pv 2))) (pw_or1 (pt_cmp (pc_din hu (pe_ix (ix_tupK (K := K) rfl) (pv 3) pe_int (fun _ _ => rfl)) (pv 2)))))) (pss_one (ps_ret pe_bl)) pss_nil)
      (pss_one (ps_expr (pe_bm PySem.F.plainAttrs_dict PySem.F.slot_dict_update PySem.F.type_dict_update (mt_updT hu) (pv 2) (pa_cons (pe_dispT hu0 (pps_cons (pe_ix ix_tup (pv 3) pe_int (fun _ _ => rfl)) pe_bl (pps_cons (pe_ix (ix_tupK (K := K) rfl) (pv 3) pe_int (fun _ _ => rfl)) pe_bl pps_nil)) (by rfl) (by rfl) (by simp) (by decide)) pa_nil)))))))))
      (pss_one (ps_ret pe_bl)))), ?_⟩
    have hlen := Paired.length tM
    have hfew := mat.few hF.fc
    -- isinstance(pairs, tuple)
    refine ⟨_, rfl, _, _, _, _, true, rfl, .ty "tuple", ht.rd.tyx, kit_ty (by decide +kernel), true, rfl, ?_⟩
    refine iteF ?_
    -- met = {}
    intro n hn
    have s0 : Same H (upd H n (.dT [])) := same_upd hn
    -- for pair in pairs
    refine ⟨_, rfl, t, rfl, ⟨_, (ht.same s0).seq⟩, for_it walk_tup (fun i σ H2 => ∃ (u1 u2 : Option V), σ = [some (.ref p), some (.ref t), some (.ref n), u1, u2] ∧ Same H H2 ∧ H2 n = some (.dT (dF (ends (M.take i)))))
      ⟨none, none, rfl, s0, upd_same⟩ (fun i σ H2 _ ⟨_, _, _, s2, _⟩ => (ht.same s2).seq) ?_ ?_⟩
    · rintro i v _ _ H2 hi ⟨u1, u2, rfl, s2, hn2⟩ ⟨rfl, hv⟩
      obtain ⟨⟨x, y⟩, hxy, r, a, b, rfl, hr2, ha, hb⟩ := paired_get tM hv
      have hm : (x, y) ∈ M := List.mem_of_getElem? hxy
      have hxF : x ∈ F := mat.small hF.fc hm
      have hyF : y ∈ F := mat.big _ hm
      have hr3 := s2 _ _ hr2
      have ha2 : TI H2 a x := s2 _ _ ha
      have hb2 : TI H2 b y := s2 _ _ hb
      have hrS : SqT K H2 r [.ref a, .ref b] := SqT.of hr3
      -- the first test
      refine ⟨_, rfl, r, _, 2, 2, rfl, .inl hr3, _, rfl, ?_⟩
      refine iteF ?_
      refine ⟨_, rfl, r, _, 0, .ref a, rfl, rfl, hrS, rfl, a, x, rfl, ha2, hF.fc.asc hxF, fun H3 s3 => ⟨_, rfl, ?_⟩⟩
      refine iteF ?_
      have s3' := s2.trans s3
      refine ⟨_, rfl, r, _, 1, .ref b, rfl, rfl, SqT.of (s3 _ _ hr3), rfl, b, y, rfl, s3 _ _ hb2, hF.fc.asc hyF, fun H4 s4 => ⟨_, rfl, ?_⟩⟩
      refine iteF ?_
      have s4' := s3'.trans s4
      have hn4 := s4 _ _ (s3 _ _ hn2)
      have hr4' : H4 r = some (.tup [.ref a, .ref b]) := s4' _ _ hr2
      have ha4 : TI H4 a x := s4' _ _ ha
      have hb4 : TI H4 b y := s4' _ _ hb
      clear hn2 hr3 ha2 hb2 hrS s3 s3' s4 H3 s2 H2
      have hrS : SqT K H4 r [.ref a, .ref b] := SqT.of hr4'
      -- the second
      refine ⟨_, rfl, r, _, 1, .ref b, rfl, rfl, hrS, rfl, _, rfl, p, C, dx, fs, _, rfl, s4' _ _ hp, T.ins.cl, T.nF, hfs, d, _, rfl, DGet.t (k := ky y) (s4' _ _ hd) (ti_key hb4), _, rfl, ?_⟩
      rw [show valV (dF F) (ky y) = some (.bl true) from val_some (fun _ => .bl true) hyF]
      refine iteF ?_
      refine ⟨_, rfl, r, _, 1, .ref b, rfl, rfl, hrS, rfl, b, _, rfl, .inr (SqT.of hb4), _, rfl, r, _, 0, .ref a, rfl, rfl, hrS, rfl, a, _, rfl, .inr (SqT.of ha4), ?_⟩
      have hdl := (mat.down _ hm).len
      refine ⟨_, _, rfl, rfl, rfl, _, rfl, ?_⟩
      refine ifF (ne_ints (by rw [List.length_map, List.length_map]; dsimp only at hdl; omega)) ?_
      -- the third
      refine ⟨_, rfl, r, _, 0, .ref a, rfl, rfl, hrS, rfl, a, rfl, ⟨_, SqT.of ha4⟩, fun D1 hD1 => lc_it walk_tup (GP H4 D1 (fun i acc _ => acc = (List.replicate i false).map V.bl)) (gp_start hD1 rfl) (fun i H2 _ h2 => seqT h2.1 (SqT.of ha4)) ?_ ?_⟩
      · rintro j v _ H5 hj ⟨s5, acc, hD5, racc⟩ ⟨rfl, hv⟩
        obtain ⟨z, hz, rfl⟩ := ints_at hv
        have hzm : z ∈ y := (mat.down _ hm).sub.subset (List.mem_of_getElem? hz)
        refine ⟨rfl, _, rfl, _, rfl, r, _, 1, .ref b, rfl, rfl, SqT.of (s5 _ _ hr4'), rfl, b, _, rfl, .inr (SqT.of (s5 _ _ hb4)), rfl, flat_ints y, ?_⟩
        rw [show (if true = true then !inV (V.int z) (y.map V.int) else inV (V.int z) (y.map V.int)) = false by rw [in_ints hzm]; rfl]
        refine gp_grow off_pure hD1 s5 hD5 (Same.refl _) ?_ ?_
        · rw [racc, List.length_map, List.length_replicate]
          rw [List.length_map] at hj
          have := hF.fc.len x hxF
          exact small_line (by omega)
        · rw [racc, List.replicate_succ', List.map_append]; rfl
      rintro H5 ⟨s5, acc, hD5, racc⟩
      subst racc
      refine ⟨D1, _, rfl, .inl (.inl hD5), ?_⟩
      refine ⟨_, rfl, ifF (by simp) ?_⟩
      have s6 := s4'.trans s5
      have hn6 := s5 _ _ hn4
      have hr6 : SqT K H5 r [.ref a, .ref b] := SqT.of (s5 _ _ hr4')
      have ha6 : TI H5 a x := s5 _ _ ha4
      have hb6 : TI H5 b y := s5 _ _ hb4
      clear hn4 hr4' ha4 hb4 hrS
      -- the fourth
      have hnd : (ends (M.take (i + 1))).Nodup := (mat.take (i + 1)).nd
      rw [take_snoc hxy, ends_snoc] at hnd
      have hnd' := List.nodup_append.mp hnd
      have hxn : x ∉ ends (M.take i) := fun z => hnd'.2.2 x z x (by simp) rfl
      have hyn : y ∉ ends (M.take i) := fun z => hnd'.2.2 y z y (by simp) rfl
      refine ⟨_, rfl, r, _, 0, .ref a, rfl, rfl, hr6, rfl, _, rfl, n, _, rfl, DGet.t (k := ky x) hn6 (ti_key ha6), _, rfl, ?_⟩
      rw [show valV (dF (ends (M.take i))) (ky x) = none from val_none (fun _ => .bl true) hxn]
      refine iteF ?_
      refine ⟨_, rfl, r, _, 1, .ref b, rfl, rfl, hr6, rfl, _, rfl, n, _, rfl, DGet.t (k := ky y) hn6 (ti_key hb6), _, rfl, ?_⟩
      rw [show valV (dF (ends (M.take i))) (ky y) = none from val_none (fun _ => .bl true) hyn]
      refine iteF ?_
      -- met.update(..)
      refine ⟨_, rfl, ?ty, fun m hm' => ?_⟩
      case ty => exact .inr (.inr (.inl ⟨rfl, .inr ⟨_, hn6⟩⟩))
      have s7 : Same H5 (upd H5 m (.dT [])) := same_upd hm'
      have hr7 : SqT K (upd H5 m (.dT [])) r [.ref a, .ref b] := seqT s7 hr6
      refine ⟨_, rfl, r, _, 0, .ref a, rfl, rfl, hr7, rfl, _, rfl, r, _, 1, .ref b, rfl, rfl, hr7, rfl, upd_same, [⟨a, ky x, .bl true⟩, ⟨b, ky y, .bl true⟩], rfl, ?_, ?_, Nat.le_of_ble_eq_true rfl, ?_⟩
      · intro e he
        rcases List.mem_cons.mp he with rfl | he
        · exact s7 _ _ (ti_key ha6)
        · rw [List.mem_singleton.mp he]
          exact s7 _ _ (ti_key hb6)
      · have : x ≠ y := by
          intro z
          have := hnd'.2.1
          rw [z] at this
          simp at this
        simp only [List.map_cons, List.map_nil, List.nodup_cons, List.mem_singleton, List.nodup_nil, and_true, List.not_mem_nil, not_false_eq_true]
        exact fun z => this (ky_inj z)
      have nnm : n ≠ m := ne_of_none hn6 hm'
      refine ⟨n, m, dF (ends (M.take i)), _, rfl, rfl, nnm, ?_, upd_same, ?_, ?_, ?_, ?_⟩
      · rw [upd_ne nnm]
        exact s7 _ _ hn6
      · have e : (dF (ends (M.take i)) ++ [(⟨a, ky x, .bl true⟩ : Pr1), ⟨b, ky y, .bl true⟩].map fun e => (e.k, e.v)).map (·.1) = (ends (M.take i) ++ [x, y]).map ky := by
          unfold dF
          simp
        rw [e]
        exact nodup_mapI (fun _ _ => ky_inj) hnd
      · right
        show [(tupleKind (mixKind P w)).hash (ky x), (tupleKind (mixKind P w)).hash (ky y)].Nodup
        rw [hT_eq, hT_eq]
        have : hT x ≠ hT y := by
          intro z
          have e := hT_inj (hF.fc.sub7 hxF) (hF.fc.sub7 hyF) z
          have := hnd'.2.1
          rw [e] at this
          simp at this
        simpa using this
      · have := ends_length (M.take i)
        have h2 := List.length_take_le' i M
        rw [dF_len]
        simp only [List.length_map, List.length_cons, List.length_nil]
        rw [sizeLine_eq]
        omega
      · refine ⟨_, _, rfl, fun b o e => ?_, ?_⟩
        · have e7 := s7 _ _ (s5 _ _ (s4' _ _ e))
          rw [upd_ne (ne_of_none e hn), upd_ne (ne_of_none (s5 _ _ (s4' _ _ e)) hm')]
          exact e7
        · rw [upd_same, take_snoc hxy, ends_snoc]
          simp [dF]
    · rintro _ H2 ⟨u1, u2, rfl, s2, hn2⟩
      exact q H2 s2
end
end K96

/-! Tuples of ints as data: ==, in. -/
namespace K96
open PySem PySem.Spec PyProof.Rows L2

def fD (x : List Int) : PyData := .tuple (x.map .int)
theorem dpAll_ints {K : PySem.W.Frag} {H : Hp} : ∀ x : List Int, DpAll K H (x.map V.int) (x.map .int)
  | [] => .nil
  | a :: r => .cons (.int a) (dpAll_ints r)
theorem dp_f {K : PySem.W.Frag} {H : Hp} {a : Addr} {x : List Int} (h : TI H a x) : Dp K H (.ref a) (fD x) := .tup (SqT.of h) (dpAll_ints x)
theorem fD_eqv : ∀ x y : List Int, PyData.eqv (fD x) (fD y) = decide (x = y)
  | [], [] => by simp [fD, PyData.eqv, PyData.eqvAll]
  | [], b :: s => by simp [fD, PyData.eqv, PyData.eqvAll]
  | a :: r, [] => by simp [fD, PyData.eqv, PyData.eqvAll]
  | a :: r, b :: s => by
    have h := fD_eqv r s
    simp only [fD, PyData.eqv, PyData.eqvAll, List.map_cons] at h ⊢
    rw [h]
    by_cases e : a = b
    · subst e; simp
    · simp [e]
theorem ints_lay : ∀ x : List Int, PyData.canLayAll0 (x.map .int) = true
  | [] => by simp [PyData.canLayAll0]
  | a :: r => by simp [PyData.canLayAll0, PyData.canLay0, ints_lay r]
theorem ints_depth : ∀ x : List Int, PyData.depthAll (x.map .int) ≤ 1
  | [] => by simp [PyData.depthAll]
  | a :: r => by
    have := ints_depth r
    simp [PyData.depthAll, PyData.depth]
    omega
theorem fD_lay (x : List Int) : (fD x).canLay0 = true := by simp [fD, PyData.canLay0, ints_lay]
theorem fD_depth (x : List Int) : (fD x).depth ≤ 2 := by
  have := ints_depth x
  simp [fD, PyData.depth]
  omega
theorem fDs_lay : ∀ l : List (List Int), PyData.canLayAll0 (l.map fD) = true
  | [] => by simp [PyData.canLayAll0]
  | a :: r => by simp [PyData.canLayAll0, fD_lay, fDs_lay r]
theorem fDs_depth : ∀ l : List (List Int), PyData.depthAll (l.map fD) ≤ 2
  | [] => by simp [PyData.depthAll]
  | a :: r => by
    have h1 := fDs_depth r
    have h2 := fD_depth a
    simp [PyData.depthAll]
    omega
theorem fD_shaped (x : List Int) : SeqAt.shaped (fD x) = true := by
  have := fD_depth x
  simp only [SeqAt.shaped, fD_lay, Bool.true_and, decide_eq_true_eq]
  omega
theorem fDs_shaped (l : List (List Int)) : SeqAt.shaped (.list (l.map fD)) = true := by
  have h1 := fDs_depth l
  have h2 : PyData.depth (.list (l.map fD)) ≤ 64 := by
    simp only [PyData.depth]
    omega
  show (PyData.canLay0 (.list (l.map fD)) && decide (PyData.depth (.list (l.map fD)) ≤ 64)) = true
  rw [Bool.and_eq_true]
  exact ⟨by simp only [PyData.canLay0]; exact fDs_lay l, decide_eq_true h2⟩
theorem fDt_shaped (l : List (List Int)) : SeqAt.shaped (.tuple (l.map fD)) = true := by
  have h1 := fDs_depth l
  have h2 : PyData.depth (.tuple (l.map fD)) ≤ 64 := by
    simp only [PyData.depth]
    omega
  show (PyData.canLay0 (.tuple (l.map fD)) && decide (PyData.depth (.tuple (l.map fD)) ≤ 64)) = true
  rw [Bool.and_eq_true]
  exact ⟨by simp only [PyData.canLay0]; exact fDs_lay l, decide_eq_true h2⟩
theorem dpAll_tvs {K : PySem.W.Frag} {H : Hp} {xs : List V} {L : List (List Int)} (h : TVs H xs L) : DpAll K H xs (L.map fD) := by
  induction h with
  | nil => exact .nil
  | cons h t ih =>
    obtain ⟨a, rfl, ha⟩ := h
    exact .cons (dp_f ha) ih
theorem any_fD (x : List Int) : ∀ l : List (List Int), ((l.map fD).any fun z => PyData.eqv z (fD x)) = decide (x ∈ l)
  | [] => by simp
  | a :: r => by
    rw [List.map_cons, List.any_cons, any_fD x r, fD_eqv]
    by_cases e : a = x
    · subst e; simp
    · have : ¬ x = a := fun z => e z.symm
      simp [e, this]
/-- x == y, both tuples of ints -/
theorem eq_f {K : PySem.W.Frag} {H : Hp} {Q : VK} {a b : Addr} {x y : List Int} (hx : TI H a x) (hy : TI H b y) (q : Q (.bl (decide (x = y))) H) : rEqD K (.ref a) (.ref b) H Q :=
  ⟨_, _, dp_f hx, dp_f hy, fD_shaped x, fD_shaped y, by rw [fD_eqv]; exact q⟩
theorem ne_f {K : PySem.W.Frag} {H : Hp} {Q : VK} {a b : Addr} {x y : List Int} (hx : TI H a x) (hy : TI H b y) (q : Q (.bl (!decide (x = y))) H) : rNeD K (.ref a) (.ref b) H Q :=
  ⟨_, _, dp_f hx, dp_f hy, fD_shaped x, fD_shaped y, by rw [fD_eqv]; exact q⟩
/-- x in L, L a list of tuples of ints -/
theorem in_f {K : PySem.W.Frag} {H : Hp} {Q : VK} {a l : Addr} {x : List Int} {xs : List V} {L : List (List Int)} (hx : TI H a x) (hl : SqL K H l xs) (tL : TVs H xs L) (q : Q (.bl (decide (x ∈ L))) H) : rInD K (.ref a) (.ref l) H Q :=
  ⟨_, _, dp_f hx, .lst hl (dpAll_tvs tL), fD_shaped x, fDs_shaped L, by rw [any_fD]; exact q⟩
theorem notIn_f {K : PySem.W.Frag} {H : Hp} {Q : VK} {a l : Addr} {x : List Int} {xs : List V} {L : List (List Int)} (hx : TI H a x) (hl : SqL K H l xs) (tL : TVs H xs L) (q : Q (.bl (!decide (x ∈ L))) H) : rNotInD K (.ref a) (.ref l) H Q :=
  ⟨_, _, dp_f hx, .lst hl (dpAll_tvs tL), fD_shaped x, fDs_shaped L, by rw [any_fD]; exact q⟩
end K96

/-! Plain: rings of pairs; acyclic pairs have a free one. -/
namespace K96
def keys (M : List (Fa × Fa)) : List Fa := M.map (·.1)
/-- y without one vertex, each vertex in turn -/
def ers (y : Fa) : List Fa := (List.range y.length).map fun i => y.eraseIdx i
theorem mem_ers {z y : Fa} : z ∈ ers y ↔ Dn z y := by
  unfold ers Dn
  simp only [List.mem_map, List.mem_range]
  constructor
  · rintro ⟨i, h, e⟩; exact ⟨i, h, e.symm⟩
  · rintro ⟨i, h, e⟩; exact ⟨i, h, e.symm⟩
theorem ers_len (y : Fa) : (ers y).length = y.length := by simp [ers]
theorem ers_at {y : Fa} {i : Nat} (h : i < y.length) : (ers y)[i]? = some (y.eraseIdx i) := by
  unfold ers
  rw [List.getElem?_map, List.getElem?_range h]
  rfl
/-- from x up its pair, down again to another key -/
def Edge (M : List (Fa × Fa)) (x z : Fa) : Prop := ∃ y, (x, y) ∈ M ∧ Dn z y ∧ z ≠ x ∧ z ∈ keys M
/-- no ring: some rank falls along each edge -/
def Acyc (M : List (Fa × Fa)) : Prop := ∃ rk : Fa → Nat, ∀ x z, Edge M x z → rk z < rk x
theorem Edge.sub {L M : List (Fa × Fa)} (h : ∀ p ∈ L, p ∈ M) {x z : Fa} (e : Edge L x z) : Edge M x z := by
  obtain ⟨y, h1, h2, h3, h4⟩ := e
  obtain ⟨p, hp, rfl⟩ := List.mem_map.mp h4
  exact ⟨y, h _ h1, h2, h3, List.mem_map.mpr ⟨p, h p hp, rfl⟩⟩
theorem Acyc.sub {L M : List (Fa × Fa)} (a : Acyc M) (h : ∀ p ∈ L, p ∈ M) : Acyc L := by
  obtain ⟨rk, hr⟩ := a
  exact ⟨rk, fun x z e => hr x z (e.sub h)⟩
/-- no other way down from p within L -/
def freeB (L : List (Fa × Fa)) (p : Fa × Fa) : Bool := (ers p.2).all fun z => decide (z = p.1) || !decide (z ∈ keys L)
theorem least_mem {α : Type} (f : α → Nat) : ∀ l : List α, l ≠ [] → ∃ a ∈ l, ∀ b ∈ l, f a ≤ f b
  | [], h => absurd rfl h
  | [a], _ => ⟨a, List.mem_cons_self, fun b hb => by rw [List.mem_singleton.mp hb]; exact Nat.le_refl _⟩
  | a :: c :: r, _ => by
    obtain ⟨m, hm, hl⟩ := least_mem f (c :: r) (by simp)
    by_cases h : f a ≤ f m
    · refine ⟨a, List.mem_cons_self, fun b hb => ?_⟩
      rcases List.mem_cons.mp hb with rfl | hb
      · exact Nat.le_refl _
      · exact Nat.le_trans h (hl b hb)
    · refine ⟨m, List.mem_cons_of_mem _ hm, fun b hb => ?_⟩
      rcases List.mem_cons.mp hb with rfl | hb
      · omega
      · exact hl b hb
theorem Acyc.free {L : List (Fa × Fa)} (a : Acyc L) (h : L ≠ []) : ∃ p ∈ L, freeB L p = true := by
  obtain ⟨rk, hr⟩ := a
  obtain ⟨p, hp, hl⟩ := least_mem (fun p : Fa × Fa => rk p.1) L h
  refine ⟨p, hp, ?_⟩
  unfold freeB
  rw [List.all_eq_true]
  intro z hz
  by_cases e : z = p.1
  · simp [e]
  · have : z ∉ keys L := by
      intro hk
      have hlt := hr p.1 z ⟨p.2, hp, mem_ers.mp hz, e, hk⟩
      obtain ⟨q, hq, rfl⟩ := List.mem_map.mp hk
      have := hl q hq
      omega
    simp [this]
end K96

/-! has_ring. -/
namespace K96
open PySem PySem.Spec PyProof.Rows L2

/-- the pairs of a dict that takes small to big -/
def DP (H : Hp) (kvs : List (List Key × V)) (L : List (Fa × Fa)) : Prop := Paired (fun kv p => kv.1 = ky p.1 ∧ ∃ b, kv.2 = V.ref b ∧ TI H b p.2) kvs L
theorem DP.same {H H' : Hp} (e : Same H H') {kvs : List (List Key × V)} {L : List (Fa × Fa)} (h : DP H kvs L) : DP H' kvs L := Paired.mapP h fun _ _ ⟨z, b, z2, z3⟩ => ⟨z, b, z2, e _ _ z3⟩
theorem DP.but {D : Addr} {H H' : Hp} {u : HO} {kvs : List (List Key × V)} {L : List (Fa × Fa)} (h : DP H kvs L) (hD : H D = some u) (hu : ∀ xs, u ≠ .tup xs) (s : But D H H') : DP H' kvs L := Paired.mapP h fun _ _ ⟨z, b, z2, z3⟩ => ⟨z, b, z2, tup_but z3 hD hu s⟩
theorem DP.none' {H : Hp} {kvs : List (List Key × V)} {L : List (Fa × Fa)} (h : DP H kvs L) {z : Fa} (n : z ∉ keys L) : valV kvs (ky z) = none := by
  induction h with
  | nil => rfl
  | @cons kv p kvs L h t ih =>
    have n' : ¬ (z = p.1) ∧ z ∉ keys L := by simpa [keys] using n
    rw [valV_neg (fun e => n'.1 (ky_inj (h.1.symm.trans e)).symm)]
    exact ih n'.2
theorem DP.some' {H : Hp} {kvs : List (List Key × V)} {L : List (Fa × Fa)} (h : DP H kvs L) {z : Fa} (m : z ∈ keys L) : ∃ b y, valV kvs (ky z) = some (.ref b) ∧ (z, y) ∈ L ∧ TI H b y := by
  induction h with
  | nil => cases m
  | @cons kv p kvs L h t ih =>
    by_cases e : p.1 = z
    · obtain ⟨h1, b, h2, h3⟩ := h
      subst e
      exact ⟨b, p.2, by rw [valV_pos h1, h2], List.mem_cons_self, h3⟩
    · rw [valV_neg (fun q => e (ky_inj (h.1.symm.trans q)))]
      have m' : z ∈ keys L := by
        have := List.mem_cons.mp (show z ∈ p.1 :: keys L from m)
        exact this.resolve_left fun q => e q.symm
      obtain ⟨b, y, h1, h2, h3⟩ := ih m'
      exact ⟨b, y, h1, List.mem_cons_of_mem _ h2, h3⟩
theorem DP.drop {H : Hp} {kvs : List (List Key × V)} {L : List (Fa × Fa)} (h : DP H kvs L) (z : Fa) : DP H (dropK kvs (ky z)) (L.filter fun p => decide (p.1 ≠ z)) := by
  unfold dropK
  induction h with
  | nil => exact .nil
  | @cons kv p kvs L h t ih =>
    by_cases e : p.1 = z
    · rw [List.filter_cons_of_neg (by simp [h.1, e]), List.filter_cons_of_neg (by simp [e])]
      exact ih
    · have e2 : kv.1 ≠ ky z := fun q => e (ky_inj (h.1.symm.trans q))
      rw [List.filter_cons_of_pos (by simpa using e2), List.filter_cons_of_pos (by simpa using e)]
      exact .cons h ih
/-- what dict(pairs) asks -/
theorem pr2_of {H : Hp} {ps : List V} {M : List (Fa × Fa)} (h : PrTs H ps M) : ∃ L : List Pr2, ps = (L.map fun e => V.ref e.t) ∧ (∀ e ∈ L, e.At H) ∧ L.map (·.k) = (keys M).map ky ∧ DP H (L.map fun e => (e.k, e.v)) M := by
  induction h with
  | nil => exact ⟨[], rfl, fun e he => (nomatch he), rfl, .nil⟩
  | @cons v p ps M h t ih =>
    obtain ⟨L, e1, e2, e3, e4⟩ := ih
    obtain ⟨r, a, b, rfl, hr, ha, hb⟩ := h
    refine ⟨⟨r, a, ky p.1, .ref b⟩ :: L, by rw [e1]; rfl, fun e he => ?_, ?_, .cons ⟨rfl, b, rfl, hb⟩ e4⟩
    · rcases List.mem_cons.mp he with rfl | he
      · exact ⟨hr, ti_key ha⟩
      · exact e2 e he
    · rw [List.map_cons, e3]; rfl
theorem eq_nil_f {K : PySem.W.Frag} {H : Hp} {Q : VK} {l e : Addr} {xs : List V} {L : List (List Int)} (hl : SqL K H l xs) (tL : TVs H xs L) (he : SqL K H e []) (q : Q (.bl (decide (L = []))) H) : rEqD K (.ref l) (.ref e) H Q := by
  refine ⟨_, _, .lst hl (dpAll_tvs tL), .lst he .nil, fDs_shaped L, fDs_shaped [], ?_⟩
  have : PyData.eqv (.list (L.map fD)) (.list []) = decide (L = []) := by
    cases L with
    | nil => simp [PyData.eqv, PyData.eqvAll]
    | cons a r => simp [PyData.eqv, PyData.eqvAll]
  rw [this]
  exact q
section
variable {P : Program} {w : World} {K : PySem.W.Frag} {mg : Str → Option Value} {base : Heap} {C : Addr}

def spHasRing : Sp := fun vs H Q _ => ∃ (t : Addr) (F : List Fa) (ps : List V) (M : List (Fa × Fa)), vs = [.ref t] ∧ PlT H t ps ∧ PrTs H ps M ∧ Mat F M ∧ Fc F ∧ Acyc M ∧
  ∀ H', Same H H' → Q (.bl false) H'
abbrev n_has_ring : List Str := ["pairs", "left", "free", "small", "big", "downs", "at", "down"]
theorem sc_has_ring : FnScope n_has_ring ["pairs"] (defScope (top 28)) := ⟨rfl, rfl, rfl, by decide +kernel, rfl, by decide +kernel, by decide +kernel⟩
theorem ok_has_ring (N : Nm mg) (D : Def K mg "has_ring" (top 28)) : Cal P w K mg base "has_ring" 1 ["pairs"] spHasRing := by
  refine D.ok sc_has_ring (fun vs H Q E h => ?_) (fun _ _ _ _ _ _ us hl => match us, hl with | [_], _ => rfl) (fun f cdv A outer s H vs Q E hr h => ?_)
  · obtain ⟨t, F, ps, M, rfl, _⟩ := h
    rfl
  · obtain ⟨t, F, ps, M, rfl, ht, tM, mat, fc, ac, q⟩ := h
    have hu := hu_of hr
    have hu64 : (A.deeper (envOfC "has_ring" (defScope (top 28)) s.heap.objs.size f cdv)).units + 64 < cLine := hr.units
    have hu2 : (A.deeper (envOfC "has_ring" (defScope (top 28)) s.heap.objs.size f cdv)).units + 2 < cLine := by omega
    have hu0 : (A.deeper (envOfC "has_ring" (defScope (top 28)) s.heap.objs.size f cdv)).units < cLine := by omega
    refine ⟨_, pss_cons (ps_set (i := 1) sc_has_ring.nd rfl (Or.inr rfl) (pe_callTy (call_dictPT rfl hu2) (by rfl) N.dict (by decide +kernel) (pa_cons (pv 0) pa_nil)))
      (pss_cons (ps_while PassesOwn.never (pt_cmpR (op_neEmpty hu0) (pv 1) pe_dnewT (nomark _))
      (pss_cons (ps_set (i := 2) sc_has_ring.nd rfl (Or.inl rfl) (pe_lst pa_nil))
      (pss_cons (ps_lock (ps_for PassesOwn.never rfl (pi_itemsT (pv 1)) (pg_tup rfl (pgs_cons (pg_name (i := 3) sc_has_ring.nd rfl (Or.inr rfl)) (pgs_cons (pg_name (i := 4) sc_has_ring.nd rfl (Or.inr rfl)) pgs_nil)))
      (pss_cons (ps_setLc (i := 5) (own := [("at", 6)]) (g := gName 6) (tt := tYes) rfl sc_has_ring.nd rfl rfl (sw_true rfl rfl rfl (by decide +kernel)) (pi_range1 (by rfl) N.range (pa_cons (pe_callB call_len_seq (by rfl) N.len PySem.boot_len (pa_cons (pv 4) pa_nil)) pa_nil)) (blkOk_by (N := n_has_ring) (sc := defScope (top 28)) (by decide +kernel)) (fun _ _ _ _ _ => (pg_name (i := 6) sc_has_ring.nd rfl (Or.inl rfl))) (fun _ _ _ _ _ => pts_nil) (fun _ _ _ _ _ => by exact (pe_erase (pv 4) (pv 6) (pv 4) (pv 6))))
      (pss_one (ps_if (pt_val (pe_callB (cr_all rfl) (by rfl) N.all (by decide +kernel) (pa_cons (pe_lc (own := [("down", 7)]) (g := gName 7) (tt := tYes) rfl sc_has_ring.nd (pi_list (pv 5)) (blkOk_by (N := n_has_ring) (sc := defScope (top 28)) (by decide +kernel)) (fun _ _ _ _ _ => (pg_name (i := 7) sc_has_ring.nd rfl (Or.inl rfl))) (fun _ _ _ _ _ => pts_nil) (fun _ _ _ _ _ => by exact (pe_or (pe_cmpR (op_eqK (K := K) rfl hu64) (pv 7) (pv 3) (nomark _)) (pe_one (pe_cmp (pc_dnotin hu (pv 7) (pv 1)) rfl))))) pa_nil))) (pss_one (ps_expr (pe_bm PySem.F.plainAttrs_list PySem.F.slot_list_append PySem.F.type_list_append mt_append (pv 2) (pa_cons (pv 3) pa_nil)))) pss_nil)))))
      (pss_cons (ps_if (pt_cmpR (op_eqD hu64) (pv 2) (pe_lst pa_nil) (nomark _)) (pss_one (ps_ret pe_bl)) pss_nil)
      (pss_one (ps_for PassesOwn.never rfl (pi_list (pv 2)) (pg_name (i := 3) sc_has_ring.nd rfl (Or.inr rfl))
      (pss_one (ps_expr (pe_bm PySem.F.plainAttrs_dict PySem.F.slot_dict_pop PySem.F.type_dict_pop (mt_pop1 hu) (pv 1) (pa_cons (pv 3) pa_nil))))))))))
      (pss_one (ps_ret pe_bl))), ?_⟩
    have hfew := mat.few fc
    -- left = dict(pairs)
    obtain ⟨L0, rfl, hL0, hk0, dp0⟩ := pr2_of tM
    refine ⟨_, rfl, t, L0, rfl, ht, hL0, by rw [hk0]; exact nodup_mapI (fun _ _ => ky_inj) mat.fsts, fun n hn => ?_⟩
    have s0 : Same H (upd H n (.dT (L0.map fun e => (e.k, e.v)))) := same_upd hn
    -- while left != {}
    refine ⟨fun m σ H2 => ∃ (kvs : List (List Key × V)) (L : List (Fa × Fa)) (u2 u3 u4 u5 : Option V), σ = [some (.ref t), some (.ref n), u2, u3, u4, u5, none, none] ∧ Same H H2 ∧ H2 n = some (.dT kvs) ∧ DP H2 kvs L ∧ L.Sublist M ∧ m = L.length,
      ⟨_, _, M, none, none, none, none, rfl, s0, upd_same, dp0.same s0, List.Sublist.refl _, rfl⟩, ?_⟩
    rintro m σ H2 ⟨kvs, L, u2, u3, u4, u5, rfl, s2, hn2, dp, hLM, rfl⟩
    refine ⟨_, rfl, fun e he => ⟨n, e, kvs, rfl, rfl, same_upd he _ _ hn2, upd_same, _, rfl, ?_⟩⟩
    have s3 : Same H (upd H2 e (.dT [])) := Same.upd' s2 he
    by_cases hL : L = []
    · refine ifF ?_ ?_
      · subst hL
        cases dp
        rfl
      · exact q _ s3
    refine ifT ?_ ⟨_, fun _ _ h => h, ?_⟩
    · cases dp with
      | nil => exact absurd rfl hL
      | cons _ _ => rfl
    have hn3 := same_upd he (o := .dT []) _ _ hn2
    have dp3 := dp.same (same_upd he (o := .dT []))
    generalize upd H2 e (.dT []) = H3 at s3 hn3 dp3
    clear s2 hn2 dp he e
    have hsubM : ∀ p ∈ L, p ∈ M := fun p hp => hLM.subset hp
    have hLnd : (keys L).Nodup := mat.fsts.sublist (hLM.map _)
    have hLlen := hLM.length_le
    -- free = []
    refine ⟨by simp [sizeLine_eq], fun fr hfr => ?_⟩
    have s4 : Same H (upd H3 fr (.lst [])) := Same.upd' s3 hfr
    have nfr : n ≠ fr := ne_of_none hn3 hfr
    have hn4 := same_upd hfr (o := .lst []) _ _ hn3
    have dp4 := dp3.same (same_upd hfr (o := .lst []))
    -- for small, big in left.items()
    refine ⟨n, _, hn4, trivial, fun od => ⟨_, rfl, n, od, kvs, rfl, upd_same, ?_⟩⟩
    refine for_it walk_itemsT (fun i σ H5 => ∃ (u3 u4 u5 : Option V) (acc : List V), σ = [some (.ref t), some (.ref n), some (.ref fr), u3, u4, u5, none, none] ∧ But n H H5 ∧ H5 n = some (.frz od (.dT kvs)) ∧ DP H5 kvs L ∧
        H5 fr = some (.lst acc) ∧ TVs H5 acc (keys ((L.take i).filter (freeB L))))
      ⟨u3, u4, u5, [], rfl, But.trans (But.of_same s4) But.upd, upd_same, dp4.but hn4 (fun _ z => nomatch z) But.upd, by rw [upd_ne (Ne.symm nfr), upd_same], .nil⟩ (fun i σ H5 _ ⟨_, _, _, _, _, _, h5, _⟩ => h5) ?_ ?_
    · rintro i v _ H5 H6 hi ⟨u3, u4, u5, acc, rfl, b5, h5, dp5, hfr5, tacc⟩ ⟨T, a, k, v', hk, rfl, ha, hT, rfl⟩
      obtain ⟨⟨x, y⟩, hxy, e1, b, e2, hb⟩ := paired_get dp5 hk
      dsimp only at e1 e2 hb
      subst e1 e2
      have ha := key_ti ha
      have hm : (x, y) ∈ L := List.mem_of_getElem? hxy
      have hyF : y ∈ F := mat.big _ (hsubM _ hm)
      have hy4 := fc.len y hyF
      have s6 : Same H5 (upd H5 T (.tup [.ref a, .ref b])) := same_upd hT
      have b6 : But n H (upd H5 T (.tup [.ref a, .ref b])) := But.trans b5 (But.of_same s6)
      have hT6 : upd H5 T (.tup [.ref a, .ref b]) T = some (.tup [.ref a, .ref b]) := upd_same
      refine ⟨T, _, rfl, SqT.of hT6, rfl, _, _, rfl, _, _, rfl, rfl, ?_⟩
      have h6 := s6 _ _ h5
      have dp6 := dp5.same s6
      have hfr6 := s6 _ _ hfr5
      have tacc6 := tacc.same s6
      have ha6 : TI _ a x := s6 _ _ ha
      have hb6 : TI _ b y := s6 _ _ hb
      generalize upd H5 T (.tup [.ref a, .ref b]) = H6 at b6 h6 dp6 hfr6 tacc6 ha6 hb6
      -- downs = [..]
      refine ⟨_, rfl, b, y.map V.int, rfl, .inr (SqT.of hb6), _, rfl, rng1 (by rw [List.length_map]; omega) fun D1 hD1 => ?_⟩
      refine lc_it walk_r1 (GP H6 D1 (fun j acc H => ∃ L', TVs H acc L' ∧ L' = (ers y).take j)) (gp_start hD1 ⟨[], .nil, rfl⟩) (fun _ _ _ _ => trivial) ?_ ?_
      · rintro j v _ H7 hj ⟨s7, acc', hD7, L', tacc', rfl⟩ ⟨rfl, rfl⟩
        have hj' : j < y.length := by simpa using hj
        refine ⟨rfl, b, y, j, rfl, rfl, s7 _ _ hb6, hj', by omega, fun H8 c s8 hc => ?_⟩
        have hl3 : acc'.length = j := by rw [Paired.length tacc', List.length_take, Nat.min_eq_left]; rw [ers_len]; omega
        exact gp_grow off_tvs hD1 s7 hD7 s8 (small_line (by omega)) ⟨_, tvs_snoc (tacc'.same s8) ⟨c, rfl, hc⟩, (take_snoc (ers_at hj')).symm⟩
      rintro H7 ⟨s7, acc', hD7, L', tacc', rfl⟩
      rw [List.length_map, List.take_of_length_le (by rw [ers_len]; exact Nat.le_refl _)] at tacc'
      have b7 := But.trans b6 (But.of_same s7)
      have h7 := s7 _ _ h6
      have dp7 := dp6.same s7
      have hfr7 := s7 _ _ hfr6
      have tacc7 := tacc6.same s7
      have ha7 : TI _ a x := s7 _ _ ha6
      clear hb6 ha6 tacc6 hfr6 dp6 h6 b6
      -- if all([..])
      refine ⟨_, rfl, D1, rfl, ⟨_, SqL.of hD7⟩, fun D2 hD2 => ?_⟩
      refine lc_it walk_list (GP H7 D2 (fun j acc _ => acc = (((ers y).take j).map fun z => decide (z = x) || !decide (z ∈ keys L)).map V.bl)) (gp_start hD2 rfl) (fun j H8 _ h8 => h8.1.seq (SqL.of hD7)) ?_ ?_
      · rintro j v _ H8 hj ⟨s8, acc2, hD8, racc⟩ ⟨rfl, hv⟩
        obtain ⟨z, hz, c, rfl, hc⟩ := tvs_at tacc' hv
        have hc8 : TI H8 c z := s8 _ _ hc
        have ha8 : TI H8 a x := s8 _ _ ha7
        have hla : acc2.length < sizeLine := by
          rw [racc, List.length_map, List.length_map]
          have := List.length_take_le' j (ers y)
          rw [ers_len] at this
          exact small_line (by omega)
        have hgoal : (((ers y).take (j + 1)).map fun z => decide (z = x) || !decide (z ∈ keys L)).map V.bl = acc2 ++ [V.bl (decide (z = x) || !decide (z ∈ keys L))] := by
          rw [take_snoc hz, racc, List.map_append, List.map_append]; rfl
        refine ⟨rfl, _, rfl, _, rfl, eq_f hc8 ha8 ?_⟩
        refine ⟨_, rfl, ?_⟩
        by_cases hzx : z = x
        · refine ifT (decide_eq_true hzx) (gp_grow off_pure hD2 s8 hD8 (Same.refl _) hla ?_)
          rw [hgoal, hzx, decide_eq_true rfl]
          rfl
        · have h8 := s8 _ _ h7
          have dp8 := dp7.same s8
          rw [decide_eq_false hzx, Bool.false_or] at hgoal
          refine ifF (decide_eq_false hzx) ⟨_, rfl, _, rfl, n, _, rfl, .inr ⟨kvs, ky z, c, .inr ⟨od, h8⟩, rfl, ti_key hc8, rfl⟩, ?_⟩
          refine gp_grow off_pure hD2 s8 hD8 (Same.refl _) hla ?_
          rw [hgoal]
          by_cases hzk : z ∈ keys L
          · obtain ⟨b', y', e3, _⟩ := dp8.some' hzk
            rw [e3, decide_eq_true hzk]
            rfl
          · rw [dp8.none' hzk, decide_eq_false hzk]
            rfl
      rintro H8 ⟨s8, acc2, hD8, racc⟩
      have hE := Paired.length tacc'
      rw [hE, List.take_length] at racc
      subst racc
      have b8 := But.trans b7 (But.of_same s8)
      have h8 := s8 _ _ h7
      have dp8 := dp7.same s8
      have hfr8 := s8 _ _ hfr7
      have tacc8 := tacc7.same s8
      have ha8 : TI _ a x := s8 _ _ ha7
      refine ⟨D2, _, rfl, .inl (.inl hD8), _, rfl, ?_⟩
      have hall : (((ers y).map fun z => decide (z = x) || !decide (z ∈ keys L)).all id) = freeB L (x, y) := by
        rw [List.all_map]; rfl
      rw [hall]
      have hti : L.take (i + 1) = L.take i ++ [(x, y)] := take_snoc hxy
      cases hfb : freeB L (x, y) with
      | true =>
        refine iteT ⟨_, rfl, .inl ⟨rfl, _, SqL.of hfr8⟩, _, rfl, fr, acc, .ref a, rfl, rfl, hfr8, ?_, ?_⟩
        · have h1 := Paired.length tacc8
          have h2 : ((L.take i).filter (freeB L)).length ≤ L.length := Nat.le_trans (List.length_filter_le ..) (List.length_take_le' ..)
          rw [h1, keys, List.length_map]
          exact small_line (by omega)
        · refine ⟨_, _, _, acc ++ [.ref a], rfl, fun b o e1 e2 => ?_, ?_, ?_, upd_same, ?_⟩
          · rw [upd_ne (ne_of_none e2 (s3.free hfr))]
            exact b8 b o e1 e2
          · rw [upd_ne nfr]; exact h8
          · exact dp8.but hfr8 (fun _ z => nomatch z) But.upd
          · rw [hti, List.filter_append, keys, List.map_append]
            rw [show List.filter (freeB L) [(x, y)] = [(x, y)] by simp [hfb]]
            exact tvs_snoc (tacc8.but hfr8 (fun _ z => nomatch z) But.upd) ⟨a, rfl, TI.but ha8 hfr8 (fun _ z => nomatch z) But.upd⟩
      | false =>
        refine iteF ⟨_, _, _, acc, rfl, b8, h8, dp8, hfr8, ?_⟩
        rw [hti, List.filter_append]
        rw [show List.filter (freeB L) [(x, y)] = [] by simp [hfb], List.append_nil]
        exact tacc8
    · rintro _ H5 ⟨u3, u4, u5, acc, rfl, b5, h5, dp5, hfr5, tacc⟩
      rw [Paired.length dp5, List.take_length] at tacc
      refine ⟨h5, ?_⟩
      have s6 : Same H (upd H5 n (.dT kvs)) := fun b o e => by
        have nb : b ≠ n := ne_of_none e hn
        rw [upd_ne nb]
        exact b5 b o nb e
      have dp6 : DP (upd H5 n (.dT kvs)) kvs L := dp5.but h5 (fun _ z => nomatch z) But.upd
      have tacc6 : TVs (upd H5 n (.dT kvs)) acc (keys (L.filter (freeB L))) := tacc.but h5 (fun _ z => nomatch z) But.upd
      have hfr6 : upd H5 n (.dT kvs) fr = some (.lst acc) := by rw [upd_ne (Ne.symm nfr)]; exact hfr5
      have hn6 : upd H5 n (.dT kvs) n = some (.dT kvs) := upd_same
      generalize upd H5 n (.dT kvs) = H6 at s6 dp6 tacc6 hfr6 hn6
      clear tacc dp5 b5 hfr5 h5
      obtain ⟨p0, hp0, hfree⟩ := (ac.sub hsubM).free hL
      have hp0F : p0 ∈ L.filter (freeB L) := List.mem_filter.mpr ⟨hp0, hfree⟩
      have hp0k : p0.1 ∈ keys (L.filter (freeB L)) := List.mem_map.mpr ⟨p0, hp0F, rfl⟩
      have hFne : keys (L.filter (freeB L)) ≠ [] := fun z => by rw [z] at hp0k; cases hp0k
      have hFnd : (keys (L.filter (freeB L))).Nodup := hLnd.sublist (List.filter_sublist.map _)
      have hFin : ∀ z ∈ keys (L.filter (freeB L)), z ∈ keys L := fun z hz => by
        obtain ⟨p, hp, rfl⟩ := List.mem_map.mp hz
        exact List.mem_map.mpr ⟨p, (List.mem_filter.mp hp).1, rfl⟩
      generalize keys (L.filter (freeB L)) = Fr at tacc6 hp0k hFne hFnd hFin
      -- if free == []
      refine ⟨_, rfl, by simp [sizeLine_eq], fun e he => eq_nil_f (SqL.of (same_upd he _ _ hfr6)) (tacc6.same (same_upd he)) (SqL.of upd_same) ⟨_, rfl, ?_⟩⟩
      refine ifF (decide_eq_false hFne) ?_
      have s7 := Same.upd' (o := .lst []) s6 he
      have dp7 := dp6.same (same_upd (o := .lst []) he)
      have tacc7 := tacc6.same (same_upd (o := .lst []) he)
      have hfr7 := same_upd (o := .lst []) he _ _ hfr6
      have hn7 := same_upd (o := .lst []) he _ _ hn6
      generalize upd H6 e (.lst []) = H7 at s7 dp7 tacc7 hfr7 hn7
      clear s6 dp6 tacc6 hfr6 hn6 he e
      -- for small in free
      refine ⟨_, rfl, fr, rfl, ⟨_, SqL.of hfr7⟩, for_it walk_list (fun j σ H8 => ∃ (u3 : Option V) (kvs' : List (List Key × V)), σ = [some (.ref t), some (.ref n), some (.ref fr), u3, u4, u5, none, none] ∧ Same H H8 ∧ H8 n = some (.dT kvs') ∧
          DP H8 kvs' (L.filter fun p => decide (p.1 ∉ Fr.take j)) ∧ H8 fr = some (.lst acc) ∧ TVs H8 acc Fr)
        ⟨u3, kvs, rfl, s7, hn7, by rw [List.filter_eq_self.mpr (by simp)]; exact dp7, hfr7, tacc7⟩ (fun j σ H8 _ ⟨_, _, _, _, _, _, h8, _⟩ => SqL.of h8) ?_ ?_⟩
      · rintro j v _ _ H8 hj ⟨u3, kvs', rfl, s8, hn8, dp8, hfr8, tacc8⟩ ⟨rfl, hv⟩
        obtain ⟨z, hz, c, rfl, hc⟩ := tvs_at tacc8 hv
        have hzL := hFin z (List.mem_of_getElem? hz)
        have hzt : z ∉ Fr.take j := fun hm => by
          have h2 : (Fr.take (j + 1)).Nodup := hFnd.sublist (List.take_sublist ..)
          rw [take_snoc hz, List.nodup_append] at h2
          exact h2.2.2 z hm z (by simp) rfl
        have hzk : z ∈ keys (L.filter fun p => decide (p.1 ∉ Fr.take j)) := by
          obtain ⟨p, hp, rfl⟩ := List.mem_map.mp hzL
          exact List.mem_map.mpr ⟨p, List.mem_filter.mpr ⟨hp, decide_eq_true hzt⟩, rfl⟩
        obtain ⟨b', y', e3, _⟩ := dp8.some' hzk
        refine ⟨_, rfl, .inr (.inr (.inl ⟨rfl, .inr ⟨_, hn8⟩⟩)), _, rfl, n, kvs', ky z, c, _, rfl, rfl, hn8, ti_key hc, e3, ?_⟩
        refine ⟨_, _, rfl, fun b o e => ?_, upd_same, ?_, ?_, ?_⟩
        · rw [upd_ne (ne_of_none e hn)]
          exact s8 b o e
        · have e4 : (L.filter fun p => decide (p.1 ∉ Fr.take (j + 1))) = (L.filter fun p => decide (p.1 ∉ Fr.take j)).filter fun p => decide (p.1 ≠ z) := by
            rw [List.filter_filter]
            refine List.filter_congr fun p _ => ?_
            rw [take_snoc hz]
            simp [not_or, Bool.and_comm]
          rw [e4]
          exact (dp8.drop z).but hn8 (fun _ z => nomatch z) But.upd
        · rw [upd_ne (Ne.symm nfr)]; exact hfr8
        · exact tacc8.but hn8 (fun _ z => nomatch z) But.upd
      · rintro _ H8 ⟨u3, kvs', rfl, s8, hn8, dp8, hfr8, tacc8⟩
        rw [Paired.length tacc8, List.take_length] at dp8
        refine ⟨_, ?_, kvs', _, _, _, _, _, rfl, s8, hn8, dp8, List.filter_sublist.trans hLM, rfl⟩
        have hle := List.length_filter_le (fun p : Fa × Fa => decide (p.1 ∉ Fr)) L
        refine Nat.lt_of_le_of_ne hle fun z => ?_
        have := List.length_filter_eq_length_iff.mp z p0 hp0
        exact of_decide_eq_true this hp0k
end
end K96

/-! is_loopless, critical_counts. -/
namespace K96
open PySem PySem.Spec PyProof.Rows L2

/-- the critical faces' numbers -/
def crit (F : List Fa) (E : List Fa) (m : Nat) : List Int := (List.range m).map fun d => (cntF F d : Int) - (cntF E d : Int)
theorem crit_nil (F : List Fa) (m : Nat) : crit F [] m = cnts F m := by
  unfold crit cnts
  refine List.map_congr_left fun d _ => ?_
  simp [cntF]
theorem crit_at {F E : List Fa} {m e : Nat} (h : e < m) : (crit F E m)[e]? = some ((cntF F e : Int) - (cntF E e : Int)) := by
  unfold crit
  rw [List.getElem?_map, List.getElem?_range h]
  rfl
theorem crit_len (F E : List Fa) (m : Nat) : (crit F E m).length = m := by simp [crit]
theorem crit_set {F E : List Fa} {x : Fa} {m e : Nat} (he : x.length = e + 1) (hm : e < m) : (crit F E m).set e ((cntF F e : Int) - (cntF E e : Int) - 1) = crit F (E ++ [x]) m := by
  unfold crit
  have := set_tab (fun d => (cntF F d : Int) - (cntF E d : Int)) (-1) hm
  rw [show (cntF F e : Int) - (cntF E e : Int) - 1 = (cntF F e : Int) - (cntF E e : Int) + -1 by omega, this]
  refine List.map_congr_left fun d _ => ?_
  rw [cntF_snoc, he]
  by_cases h : d = e
  · subst h; simp; omega
  · rw [if_neg h, if_neg (by omega)]; simp
section
variable {P : Program} {w : World} {K : PySem.W.Frag} {mg : Str → Option Value} {base : Heap} {C : Addr}

def spIsLoopless (C : Addr) : Sp := fun vs H Q _ => ∃ (p d t : Addr) (F : List Fa) (ps : List V) (M : List (Fa × Fa)), vs = [.ref p, .ref t] ∧ Shp C H p d F ∧ PlT H t ps ∧ PrTs H ps M ∧ Mat F M ∧ Acyc M ∧
  ∀ H', Same H H' → Q (.bl true) H'
abbrev n_is_loopless : List Str := ["shape", "pairs"]
theorem sc_is_loopless : FnScope n_is_loopless ["shape", "pairs"] (defScope (top 29)) := ⟨rfl, rfl, rfl, by decide +kernel, rfl, by decide +kernel, by decide +kernel⟩
theorem ok_is_loopless (D : Def K mg "is_loopless" (top 29)) (c1 : Cal P w K mg base "need_complex" 1 ["value"] (spNeedComplex C)) (c2 : Cal P w K mg base "is_pairing" 5 ["shape", "pairs"] (spIsPairing C))
    (c3 : Cal P w K mg base "has_ring" 1 ["pairs"] spHasRing) : Cal P w K mg base "is_loopless" 6 ["shape", "pairs"] (spIsLoopless C) := by
  obtain ⟨f1, fd1, G_need_complex, g_need_complex, k_need_complex, b_need_complex⟩ := c1.ex
  obtain ⟨f2, fd2, G_is_pairing, g_is_pairing, k_is_pairing, b_is_pairing⟩ := c2.ex
  obtain ⟨f3, fd3, G_has_ring, g_has_ring, k_has_ring, b_has_ring⟩ := c3.ex
  refine D.ok sc_is_loopless (fun vs H Q E h => ?_) (fun _ _ _ _ _ _ us hl => match us, hl with | [_, _], _ => rfl) (fun f cdv A outer s H vs Q E hr h => ?_)
  · obtain ⟨p, d, t, F, ps, M, rfl, _⟩ := h
    rfl
  · obtain ⟨p, d, t, F, ps, M, rfl, sh, ht, tM, mat, ac, q⟩ := h
    obtain ⟨⟨dx, fs, hp, hfs⟩, hF⟩ := id sh
    have hr1 : Room 1 _ := hr.mono (by decide)
    refine ⟨_, pss_cons (ps_expr (pe_call G_need_complex hr1 (by rfl) g_need_complex k_need_complex b_need_complex .nil pass0 (pa_cons (pv 0) pa_nil)))
      (pss_one (ps_ret (pe_and (pe_call G_is_pairing hr (by rfl) g_is_pairing k_is_pairing b_is_pairing .nil pass0 (pa_cons (pv 0) (pa_cons (pv 1) pa_nil))) (pe_one (pe_not (pe_call G_has_ring hr1 (by rfl) g_has_ring k_has_ring b_has_ring .nil pass0 (pa_cons (pv 1) pa_nil))))))), ?_⟩
    refine ⟨_, rfl, p, dx, fs, rfl, hp, ?_⟩
    refine ⟨_, rfl, _, rfl, p, d, t, F, ps, M, rfl, sh, ht, tM, mat, fun H2 s2 => ?_⟩
    refine ⟨true, rfl, iteT ⟨_, rfl, t, F, ps, M, rfl, ht.same s2, tM.same s2, mat, hF.fc, ac, fun H3 s3 => ⟨_, rfl, ?_⟩⟩⟩
    exact q H3 (s2.trans s3)

def spCritical (C : Addr) : Sp := fun vs H Q _ => ∃ (p d t : Addr) (F : List Fa) (ps : List V) (M : List (Fa × Fa)), vs = [.ref p, .ref t] ∧ Shp C H p d F ∧ PlT H t ps ∧ PrTs H ps M ∧ Mat F M ∧ Acyc M ∧
  ∀ H' r m, Same H H' → H' r = some (.tup ((crit F (ends M) m).map V.int)) → IsDim F m → Q (.ref r) H'
abbrev n_critical_counts : List Str := ["shape", "pairs", "found", "pair", "simplex"]
theorem sc_critical_counts : FnScope n_critical_counts ["shape", "pairs"] (defScope (top 30)) := ⟨rfl, rfl, rfl, by decide +kernel, rfl, by decide +kernel, by decide +kernel⟩
theorem ok_critical_counts (N : Nm mg) (D : Def K mg "critical_counts" (top 30)) (c1 : Cal P w K mg base "is_loopless" 6 ["shape", "pairs"] (spIsLoopless C)) (c2 : Cal P w K mg base "counts_in" 1 ["shape"] (spCountsIn C)) :
    Cal P w K mg base "critical_counts" 7 ["shape", "pairs"] (spCritical C) := by
  obtain ⟨f1, fd1, G_is_loopless, g_is_loopless, k_is_loopless, b_is_loopless⟩ := c1.ex
  obtain ⟨f2, fd2, G_counts_in, g_counts_in, k_counts_in, b_counts_in⟩ := c2.ex
  refine D.ok sc_critical_counts (fun vs H Q E h => ?_) (fun _ _ _ _ _ _ us hl => match us, hl with | [_, _], _ => rfl) (fun f cdv A outer s H vs Q E hr h => ?_)
  · obtain ⟨p, d, t, F, ps, M, rfl, _⟩ := h
    rfl
  · obtain ⟨p, d, t, F, ps, M, rfl, sh, ht, tM, mat, ac, q⟩ := h
    obtain ⟨⟨dx, fs, hp, hfs⟩, hF⟩ := id sh
    have fc := hF.fc
    have hr1 : Room 1 _ := hr.mono (by decide)
    refine ⟨_, pss_cons (ps_if (pt_not (pt_val (pe_call G_is_loopless hr (by rfl) g_is_loopless k_is_loopless b_is_loopless .nil pass0 (pa_cons (pv 0) (pa_cons (pv 1) pa_nil))))) (pss_one ps_never) pss_nil)
      (pss_cons (ps_set (i := 2) sc_critical_counts.nd rfl (Or.inl rfl) (pe_call G_counts_in hr1 (by rfl) g_counts_in k_counts_in b_counts_in .nil pass0 (pa_cons (pv 0) pa_nil)))
      (pss_cons (ps_for PassesOwn.never rfl (pi_tup (pv 1)) (pg_name (i := 3) sc_critical_counts.nd rfl (Or.inl rfl))
      (pss_one (ps_for PassesOwn.never rfl (pi_tup (pv 3)) (pg_name (i := 4) sc_critical_counts.nd rfl (Or.inl rfl))
      (pss_one (ps_augS (pv 2) (pe_op op_sub (pe_callB call_len_seq (by rfl) N.len PySem.boot_len (pa_cons (pv 4) pa_nil)) pe_int) get_list pe_int ip_sub set_list)))))
      (pss_one (ps_ret (pe_callTy call_tuple_of (by rfl) N.tuple (by decide +kernel) (pa_cons (pv 2) pa_nil)))))), ?_⟩
    refine ⟨_, rfl, _, rfl, p, d, t, F, ps, M, rfl, sh, ht, tM, mat, ac, fun H2 s2 => ⟨_, rfl, ?_⟩⟩
    refine iteF ?_
    refine ⟨_, rfl, p, d, F, rfl, sh.same s2, fun H3 l m s3 hl2 hl3 dm => ?_⟩
    have sA := s2.trans s3
    have lH := s2.free hl2
    have m4 := dm.le4 fc
    rw [← crit_nil] at hl3
    refine ⟨_, rfl, t, rfl, ⟨_, (ht.same sA).seq⟩, for_it walk_tup (fun i σ H4 => ∃ (u1 u2 : Option V), σ = [some (.ref p), some (.ref t), some (.ref l), u1, u2] ∧ Same H H4 ∧ H4 l = some (.lst ((crit F (ends (M.take i)) m).map V.int)))
      ⟨none, none, rfl, sA, hl3⟩ (fun i σ H4 _ ⟨_, _, _, s4, _⟩ => (ht.same s4).seq) ?_ ?_⟩
    · rintro i v _ _ H4 hi ⟨u1, u2, rfl, s4, hl4⟩ ⟨rfl, hv⟩
      obtain ⟨⟨x, y⟩, hxy, r, a, b, rfl, hr2, ha, hb⟩ := paired_get tM hv
      have hm : (x, y) ∈ M := List.mem_of_getElem? hxy
      refine ⟨_, rfl, r, rfl, ⟨_, SqT.of (s4 _ _ hr2)⟩, for_it walk_tup (fun j σ H5 => ∃ (u2 : Option V), σ = [some (.ref p), some (.ref t), some (.ref l), some (.ref r), u2] ∧ Same H H5 ∧ H5 l = some (.lst ((crit F (ends (M.take i) ++ [x, y].take j) m).map V.int)))
        ⟨u2, rfl, s4, by rw [List.take_zero, List.append_nil]; exact hl4⟩ (fun j σ H5 _ ⟨_, _, s5, _⟩ => SqT.of (s5 _ _ hr2)) ?_ ?_⟩
      · rintro j v _ _ H5 hj ⟨u2, rfl, s5, hl5⟩ ⟨rfl, hv⟩
        have two : TVs H [.ref a, .ref b] [x, y] := .cons ⟨a, rfl, ha⟩ (.cons ⟨b, rfl, hb⟩ .nil)
        obtain ⟨z, hz, c, rfl, hc⟩ := tvs_at two hv
        have hzF : z ∈ F := by
          have := List.mem_of_getElem? hz
          rcases List.mem_cons.mp this with e | e
          · rw [e]; exact mat.small fc hm
          · rw [List.mem_singleton.mp e]; exact mat.big _ hm
        obtain ⟨e, he⟩ : ∃ e, z.length = e + 1 := by
          have := fc.ne z hzF
          cases z with
          | nil => exact absurd rfl this
          | cons y ys => exact ⟨ys.length, rfl⟩
        have hem : e < m := by have := dm.le z hzF; omega
        have hix : (V.int (((z.map V.int).length : Nat) - 1) : V) = .int (e : Int) := by
          rw [List.length_map, he]
          congr 1
          omega
        have hc5 := s5 _ _ hc
        refine ⟨_, rfl, _, rfl, c, _, rfl, .inr (SqT.of hc5), _, _, rfl, rfl, l, _, e, .int ((cntF F e : Int) - (cntF (ends (M.take i) ++ [x, y].take j) e : Int)), rfl, hix, SqL.of hl5, ?_, ?_⟩
        · rw [List.getElem?_map, crit_at hem]; rfl
        refine ⟨_, _, rfl, rfl, l, _, _, e, rfl, hix, hl5, ?_, ?_⟩
        · unfold ixN
          rw [List.length_map, crit_len]
          simp [hem]
        refine ⟨_, rfl, fun b o e2 => ?_, ?_⟩
        · rw [upd_ne (ne_of_none e2 lH)]; exact s5 b o e2
        · rw [upd_same, take_snoc hz, ← List.append_assoc, ← crit_set he hem, List.map_set]
      · rintro _ H5 ⟨u2, rfl, s5, hl5⟩
        refine ⟨_, _, rfl, s5, ?_⟩
        rw [take_snoc hxy, ends_snoc]
        exact hl5
    · rintro _ H4 ⟨u1, u2, rfl, s4, hl4⟩
      rw [Paired.length tM, List.take_length] at hl4
      exact ⟨_, rfl, l, _, rfl, .inl ⟨SqL.of hl4, fun r hr => q _ r m (Same.upd' s4 hr) upd_same dm⟩⟩
end
end K96

/-! Plain: the boundary of a face. -/
namespace K96
def sgn (i : Nat) : Int := if i % 2 = 0 then 1 else -1
/-- the facets with their signs -/
def bd (y : Fa) : List (Fa × Int) := (List.range y.length).map fun i => (y.eraseIdx i, sgn i)
theorem bd_len (y : Fa) : (bd y).length = y.length := by simp [bd]
theorem bd_at {y : Fa} {i : Nat} (h : i < y.length) : (bd y)[i]? = some (y.eraseIdx i, sgn i) := by
  unfold bd
  rw [List.getElem?_map, List.getElem?_range h]
  rfl
theorem bd_fst (y : Fa) : (bd y).map (·.1) = ers y := by
  unfold bd ers
  rw [List.map_map]
  rfl
theorem erase_inj {y : Fa} (h : y.Pairwise (· < ·)) {i j : Nat} (hij : i < j) (hj : j < y.length) : y.eraseIdx i ≠ y.eraseIdx j := by
  intro e
  have h1 : (y.eraseIdx i)[i]? = y[i + 1]? := by rw [List.getElem?_eraseIdx]; simp
  have h2 : (y.eraseIdx j)[i]? = y[i]? := by rw [List.getElem?_eraseIdx]; simp [hij]
  rw [e, h2] at h1
  have hlt := List.pairwise_iff_getElem.mp h i (i + 1) (by omega) (by omega) (by omega)
  rw [List.getElem?_eq_getElem (by omega), List.getElem?_eq_getElem (by omega)] at h1
  have := Option.some.inj h1
  omega
theorem ers_nd {y : Fa} (h : y.Pairwise (· < ·)) : (ers y).Nodup := by
  unfold ers
  rw [List.nodup_iff_pairwise_ne, List.pairwise_map]
  refine List.Pairwise.imp_of_mem ?_ List.pairwise_lt_range
  intro i j _ hj hij
  exact erase_inj h hij (List.mem_range.mp hj)
theorem sgn_ne (i : Nat) : sgn i ≠ 0 := by unfold sgn; split <;> omega
end K96

/-! tidy, boundary_in. -/
namespace K96
open PySem PySem.Spec PyProof.Rows L2

/-- a pair (tuple, number) -/
def NP (H : Hp) (v : V) (p : Fa × Int) : Prop := ∃ t q, v = .ref t ∧ H t = some (.tup [.ref q, .int p.2]) ∧ TI H q p.1
abbrev NPs (H : Hp) (xs : List V) (L : List (Fa × Int)) : Prop := Paired (NP H) xs L
theorem NP.same {H H' : Hp} (e : Same H H') {v : V} {p : Fa × Int} (h : NP H v p) : NP H' v p := by
  obtain ⟨t, q, e1, e2, e3⟩ := h
  exact ⟨t, q, e1, e _ _ e2, e _ _ e3⟩
theorem NPs.same {H H' : Hp} (e : Same H H') {xs : List V} {L : List (Fa × Int)} (h : NPs H xs L) : NPs H' xs L := Paired.mapP h fun _ _ z => NP.same e z
theorem NP.but {D : Addr} {H H' : Hp} {u : HO} {v : V} {p : Fa × Int} (h : NP H v p) (hD : H D = some u) (hu : ∀ xs, u ≠ .tup xs) (s : But D H H') : NP H' v p := by
  obtain ⟨t, q, e1, e2, e3⟩ := h
  exact ⟨t, q, e1, tup_but e2 hD hu s, tup_but e3 hD hu s⟩
theorem NPs.but {D : Addr} {H H' : Hp} {u : HO} {xs : List V} {L : List (Fa × Int)} (h : NPs H xs L) (hD : H D = some u) (hu : ∀ xs, u ≠ .tup xs) (s : But D H H') : NPs H' xs L := Paired.mapP h fun _ _ z => NP.but z hD hu s
theorem sort_nps {K : PySem.W.Frag} {H : Hp} {Q : VK} {l : Addr} {xs : List V} {L : List (Fa × Int)} (hl : SqL K H l xs) (h : NPs H xs L) (q : ∀ ys p M, NPs H ys M → M.Perm L → H p = none → Q (.ref p) (upd H p (.lst ys))) : rSortN K [.ref l] H Q := by
  refine sort_of (fun i => i == 1) hl (fun x hx => ?_) fun ys p pm hp => ?_
  · obtain ⟨y, _, t, q, rfl, ht, hq⟩ := paired_mem h hx
    refine ⟨t, _, rfl, ht, by simp, fun z hz => ?_, fun i z hz => ?_⟩
    · rcases List.mem_cons.mp hz with rfl | hz
      · exact atOf_ti hq
      · rw [List.mem_singleton.mp hz]
        exact atOf_int H _
    · match i, hz with
      | 0, hz => cases hz; rfl
      | 1, hz => cases hz; rfl
      | n + 2, hz => simp at hz
  · obtain ⟨M, hM, pM⟩ := paired_perm pm h
    exact q ys p M hM pM hp
/-- the pairs of a dict of numbers -/
def dN (G : List (Fa × Int)) : List (List Key × V) := G.map fun p => (ky p.1, V.int p.2)
theorem dN_len (G : List (Fa × Int)) : (dN G).length = G.length := List.length_map ..
theorem dN_none {G : List (Fa × Int)} {k : Fa} (h : k ∉ G.map (·.1)) : valV (dN G) (ky k) = none := by
  induction G with
  | nil => rfl
  | cons a F ih =>
    have h' : ¬ k = a.1 ∧ k ∉ F.map (·.1) := by simpa using h
    show valV ((ky a.1, V.int a.2) :: dN F) (ky k) = none
    rw [valV_neg (fun z => h'.1 (ky_inj z).symm)]
    exact ih h'.2
theorem dN_get {G : List (Fa × Int)} {i : Nat} {k : List Key} {v : V} (h : (dN G)[i]? = some (k, v)) : ∃ p, G[i]? = some p ∧ k = ky p.1 ∧ v = .int p.2 := by
  unfold dN at h
  rw [List.getElem?_map, Option.map_eq_some_iff] at h
  obtain ⟨x, hx, e⟩ := h
  cases e
  exact ⟨x, hx, rfl, rfl⟩
section
variable {P : Program} {w : World} {K : PySem.W.Frag} {mg : Str → Option Value} {base : Heap} {C : Addr}

def spTidy : Sp := fun vs H Q _ => ∃ (d : Addr) (G : List (Fa × Int)), vs = [.ref d] ∧ H d = some (.dT (dN G)) ∧ G.length ≤ 8 ∧ (∀ p ∈ G, p.2 ≠ 0) ∧
  ∀ H' r ys M, Same H H' → H' r = some (.tup ys) → NPs H' ys M → M.Perm G → Q (.ref r) H'
abbrev n_tidy : List Str := ["numbers", "simplex", "number"]
theorem sc_tidy : FnScope n_tidy ["numbers"] (defScope (top 32)) := ⟨rfl, rfl, rfl, by decide +kernel, rfl, by decide +kernel, by decide +kernel⟩
theorem ok_tidy (N : Nm mg) (D : Def K mg "tidy" (top 32)) : Cal P w K mg base "tidy" 1 ["numbers"] spTidy := by
  refine D.ok sc_tidy (fun vs H Q E h => ?_) (fun _ _ _ _ _ _ us hl => match us, hl with | [_], _ => rfl) (fun f cdv A outer s H vs Q E hr h => ?_)
  · obtain ⟨d, G, rfl, _⟩ := h
    rfl
  · obtain ⟨d, G, rfl, hd, h8, hne, q⟩ := h
    have hu2 : (A.deeper (envOfC "tidy" (defScope (top 32)) s.heap.objs.size f cdv)).units + 2 < cLine := by have := hr.units; omega
    refine ⟨_, pss_one (ps_ret (pe_callTy call_tuple_of (by rfl) N.tuple (by decide +kernel) (pa_cons (pe_callB (cr_sortN hu2) (by rfl) N.sorted (by decide +kernel) (pa_cons (pe_lock (pe_lc (own := [("simplex", 1), ("number", 2)]) (g := gTup K 2 (gCons (gName 1) (gCons (gName 2) gNil))) rfl sc_tidy.nd (pi_itemsT (pv 0)) (blkOk_by (N := n_tidy) (sc := defScope (top 32)) (by decide +kernel)) (fun _ _ _ _ _ => (pg_tup rfl (pgs_cons (pg_name (i := 1) sc_tidy.nd rfl (Or.inl rfl)) (pgs_cons (pg_name (i := 2) sc_tidy.nd rfl (Or.inl rfl)) pgs_nil)))) (fun _ _ _ _ _ => (pts_one (pt_cmpR op_ne (pv 2) pe_int (nomark _)))) (fun _ _ _ _ _ => by exact (pe_tup (pa_cons (pv 1) (pa_cons (pv 2) pa_nil)))))) pa_nil)) pa_nil))), ?_⟩
    refine ⟨d, _, hd, trivial, fun od => ⟨_, rfl, d, od, dN G, rfl, upd_same, fun D1 hD => ?_⟩⟩
    have bA : But d H (upd H d (.frz od (.dT (dN G)))) := But.upd
    have nDd : D1 ≠ d := by rintro rfl; rw [upd_same] at hD; cases hD
    have hD0 : H D1 = none := by rwa [upd_ne nDd] at hD
    refine lc_it walk_itemsT (fun i H4 => ∃ acc, H4 D1 = some (.lst acc) ∧ NPs H4 acc (G.take i) ∧ But d H H4 ∧ H4 d = some (.frz od (.dT (dN G)))) ?_ (fun i H4 _ ⟨_, _, _, _, h4⟩ => h4) ?_ ?_
    · exact ⟨[], upd_same, .nil, bA.trans (But.of_same (same_upd hD)), by rw [upd_ne (Ne.symm nDd), upd_same]⟩
    · rintro i v H4 _ hi ⟨acc, hD4, tv, b4, h4⟩ ⟨T, a, k, v', hk, rfl, ha, hT, rfl⟩
      obtain ⟨⟨x, n⟩, hx, rfl, rfl⟩ := dN_get hk
      rw [dN_len] at hi
      have hm : (x, n) ∈ G := List.mem_of_getElem? hx
      have s5 : Same H4 (upd H4 T (.tup [.ref a, .int n])) := same_upd hT
      have hT5 : upd H4 T (.tup [.ref a, .int n]) T = some (.tup [.ref a, .int n]) := upd_same
      refine ⟨T, _, rfl, SqT.of hT5, rfl, _, _, rfl, _, _, rfl, rfl, ?_⟩
      have hn : n ≠ 0 := hne _ hm
      refine ⟨rfl, _, rfl, rfl, _, rfl, ifT (by simp [hn]) ⟨_, rfl, _, rfl, by simp [sizeLine_eq], fun t ht => ?_⟩⟩
      have s6 : Same H4 (upd (upd H4 T (.tup [.ref a, .int n])) t (.tup [.ref a, .int n])) := Same.upd' s5 ht
      have htD : t ≠ D1 := by rintro rfl; rw [s5 _ _ hD4] at ht; cases ht
      refine ⟨acc, s6 _ _ hD4, ?_, acc ++ [.ref t], upd_same, ?_, ?_, ?_⟩
      · rw [Paired.length tv]
        have := List.length_take_le' i G
        exact small_line (by omega)
      · rw [take_snoc hx]
        refine Paired.snoc ((NPs.same s6 tv).but (s6 _ _ hD4) (fun _ z => nomatch z) But.upd) ⟨t, a, rfl, ?_, TI.but (s6 _ _ (key_ti ha)) (s6 _ _ hD4) (fun _ z => nomatch z) But.upd⟩
        rw [upd_ne htD, upd_same]
      · intro b o e1 e2
        rw [upd_ne (ne_of_none e2 hD0)]
        exact s6 _ _ (b4 b o e1 e2)
      · rw [upd_ne (Ne.symm nDd)]; exact s6 _ _ h4
    · rintro H4 ⟨acc, hD4, tv, b4, h4⟩
      rw [dN_len, List.take_length] at tv
      have sB : Same H (upd H4 d (.dT (dN G))) := But.back b4 hd
      refine ⟨h4, ?_⟩
      dsimp only [tNil]
      refine sort_nps (SqL.of (by rw [upd_ne nDd]; exact hD4)) (NPs.but tv h4 (fun _ z => nomatch z) But.upd) fun ys p M tM pM hp => ?_
      refine ⟨p, ys, rfl, .inl ⟨SqL.of upd_same, fun t ht => ?_⟩⟩
      exact q _ t ys M (Same.upd' (Same.upd' sB hp) ht) upd_same ((tM.same (same_upd hp)).same (same_upd ht)) pM

def spBoundary : Sp := fun vs H Q _ => ∃ (c t a : Addr) (y : Fa), vs = [.ref c] ∧ H c = some (.tup [.ref t]) ∧ H t = some (.tup [.ref a, .int 1]) ∧ TI H a y ∧ y.Pairwise (· < ·) ∧ y.length ≤ 8 ∧
  ∀ H' r ys M, Same H H' → H' r = some (.tup ys) → NPs H' ys M → M.Perm (bd y) → Q (.ref r) H'
abbrev n_boundary_in : List Str := ["chain", "found", "simplex", "number", "at", "part"]
theorem sc_boundary_in : FnScope n_boundary_in ["chain"] (defScope (top 33)) := ⟨rfl, rfl, rfl, by decide +kernel, rfl, by decide +kernel, by decide +kernel⟩
theorem ok_boundary_in (N : Nm mg) (D : Def K mg "boundary_in" (top 33)) (c1 : Cal P w K mg base "tidy" 1 ["numbers"] spTidy) : Cal P w K mg base "boundary_in" 2 ["chain"] spBoundary := by
  obtain ⟨f1, fd1, G_tidy, g_tidy, k_tidy, b_tidy⟩ := c1.ex
  refine D.ok sc_boundary_in (fun vs H Q E h => ?_) (fun _ _ _ _ _ _ us hl => match us, hl with | [_], _ => rfl) (fun f cdv A outer s H vs Q E hr h => ?_)
  · obtain ⟨c, t, a, y, rfl, _⟩ := h
    rfl
  · obtain ⟨c, t, a, y, rfl, hc, ht, ha, hup, h8, q⟩ := h
    have hu := hu_of hr
    refine ⟨_, pss_cons (ps_set (i := 1) sc_boundary_in.nd rfl (Or.inl rfl) pe_dnewT)
      (pss_cons (ps_for PassesOwn.never rfl (pi_tup (pv 0)) (pg_tup rfl (pgs_cons (pg_name (i := 2) sc_boundary_in.nd rfl (Or.inl rfl)) (pgs_cons (pg_name (i := 3) sc_boundary_in.nd rfl (Or.inl rfl)) pgs_nil)))
      (pss_one (ps_for PassesOwn.never rfl (pi_range1 (by rfl) N.range (pa_cons (pe_callB call_len_seq (by rfl) N.len PySem.boot_len (pa_cons (pv 2) pa_nil)) pa_nil)) (pg_name (i := 4) sc_boundary_in.nd rfl (Or.inl rfl))
      (pss_cons (ps_set (i := 5) sc_boundary_in.nd rfl (Or.inl rfl) (pe_erase (pv 2) (pv 4) (pv 2) (pv 4)))
      (pss_one (ps_dput hu (pv 1) (pv 5) (pe_op op_add (pe_dget2 hu (pv 1) (pv 5) pe_int ⟨rfl, rfl, rfl, rfl⟩) (pe_ifExp (pt_cmpR op_eq (pe_op op_mod (pv 4) pe_int) pe_int (nomark _)) (pv 3) (pe_un un_neg (pv 3)))) rfl))))))
      (pss_one (ps_ret (pe_call G_tidy hr (by rfl) g_tidy k_tidy b_tidy .nil pass0 (pa_cons (pv 1) pa_nil))))), ?_⟩
    -- found = {}
    intro n hn
    have s0 : Same H (upd H n (.dT [])) := same_upd hn
    -- for simplex, number in chain
    refine ⟨_, rfl, c, rfl, ⟨_, SqT.of (s0 _ _ hc)⟩, for_it walk_tup (fun i σ H2 => ∃ (u2 u3 u4 u5 : Option V), σ = [some (.ref c), some (.ref n), u2, u3, u4, u5] ∧ Same H H2 ∧ H2 n = some (.dT (dN (if i = 0 then [] else bd y))))
      ⟨none, none, none, none, rfl, s0, upd_same⟩ (fun i σ H2 _ ⟨_, _, _, _, _, s2, _⟩ => SqT.of (s2 _ _ hc)) ?_ ?_⟩
    · rintro i v _ _ H2 hi ⟨u2, u3, u4, u5, rfl, s2, hn2⟩ ⟨rfl, hv⟩
      obtain rfl : i = 0 := by simpa using hi
      cases hv
      refine ⟨t, _, rfl, SqT.of (s2 _ _ ht), rfl, _, _, rfl, _, _, rfl, rfl, ?_⟩
      have ha2 : TI H2 a y := s2 _ _ ha
      -- for at in range(len(simplex))
      refine ⟨_, rfl, a, y.map V.int, rfl, .inr (SqT.of ha2), _, rfl, rng1 (by rw [List.length_map]; omega) ?_⟩
      refine for_it walk_r1 (fun j σ H3 => ∃ (u4 u5 : Option V), σ = [some (.ref c), some (.ref n), some (.ref a), some (.int 1), u4, u5] ∧ Same H H3 ∧ H3 n = some (.dT (dN ((bd y).take j))))
        ⟨u4, u5, rfl, s2, hn2⟩ (fun _ _ _ _ _ => trivial) ?_ ?_
      · rintro j v _ _ H3 hj ⟨u4, u5, rfl, s3, hn3⟩ ⟨rfl, rfl⟩
        have hj' : j < y.length := by simpa using hj
        refine ⟨a, y, j, rfl, rfl, s3 _ _ ha, hj', by omega, fun H4 b s4 hb => ?_⟩
        have hn4 := s4 _ _ hn3
        have hno : y.eraseIdx j ∉ ((bd y).take j).map (·.1) := fun hm => by
          have hnd := ers_nd hup
          rw [← bd_fst] at hnd
          have h2 : (((bd y).take (j + 1)).map (·.1)).Nodup := hnd.sublist ((List.take_sublist ..).map _)
          rw [take_snoc (bd_at hj'), List.map_append, List.nodup_append] at h2
          exact h2.2.2 _ hm (y.eraseIdx j) (by simp) rfl
        have hG := List.length_take_le' j (bd y)
        rw [bd_len] at hG
        refine ⟨_, rfl, n, rfl, .inr ⟨_, .inl hn4⟩, _, rfl, _, DGet.t (k := ky (y.eraseIdx j)) hn4 (ti_key hb), ?_⟩
        rw [dN_none hno]
        refine ⟨_, rfl, _, _, rfl, rfl, (by show (0 : Int) < 2; decide), rfl, _, rfl, ?_⟩
        have hput : putK (dN ((bd y).take j)) (ky (y.eraseIdx j)) (.int (sgn j)) = dN ((bd y).take (j + 1)) := by
          rw [putK_new _ (dN_none hno), take_snoc (bd_at hj')]
          simp [dN]
        have hsz : (dN ((bd y).take j)).length < sizeLine := by rw [dN_len]; exact small_line (by omega)
        have s5 : Same H (upd H4 n (.dT (dN ((bd y).take (j + 1))))) := fun c o e => by
          rw [upd_ne (ne_of_none e hn)]
          exact s4 _ _ (s3 c o e)
        by_cases hj2 : j % 2 = 0
        · have hs : sgn j = 0 + 1 := by unfold sgn; rw [if_pos hj2]; rfl
          refine ifT (decide_eq_true (by show V.int ((j : Int) % 2) = V.int 0; rw [show ((j : Int) % 2) = 0 by omega])) ⟨_, rfl, _, _, rfl, rfl, ?_⟩
          refine ⟨_, rfl, _, rfl, n, _, rfl, DPut.t (k := ky (y.eraseIdx j)) hn4 (ti_key hb) hsz, ?_⟩
          dsimp only [Option.getD_none]
          rw [← hs, hput]
          exact ⟨_, _, rfl, s5, upd_same⟩
        · have hs : sgn j = 0 + -1 := by unfold sgn; rw [if_neg hj2]; rfl
          refine ifF (decide_eq_false (fun z => by have := V.int.inj z; omega)) ⟨_, rfl, _, rfl, _, _, rfl, rfl, ?_⟩
          refine ⟨_, rfl, _, rfl, n, _, rfl, DPut.t (k := ky (y.eraseIdx j)) hn4 (ti_key hb) hsz, ?_⟩
          dsimp only [Option.getD_none]
          rw [← hs, hput]
          exact ⟨_, _, rfl, s5, upd_same⟩
      · rintro _ H3 ⟨u4, u5, rfl, s3, hn3⟩
        rw [List.length_map, List.take_of_length_le (by rw [bd_len]; exact Nat.le_refl _)] at hn3
        exact ⟨_, _, _, _, rfl, s3, hn3⟩
    · rintro _ H2 ⟨u2, u3, u4, u5, rfl, s2, hn2⟩
      refine ⟨_, rfl, n, bd y, rfl, hn2, by rw [bd_len]; exact h8, fun p hp => ?_, fun H3 r ys M s3 hr3 tM pM => q H3 r ys M (s2.trans s3) hr3 tM pM⟩
      obtain ⟨k, hk, rfl⟩ := List.mem_map.mp hp
      exact sgn_ne k
end
end K96

/-! Plain: the faces of one length, the boundary's rows. -/
namespace K96
/-- the faces of n vertices; the empty one alone where n is 0 -/
def sAt (F : List Fa) (n : Nat) : List Fa := if n = 0 then [[]] else F.filter fun x => x.length == n
theorem mem_sAt {F : List Fa} (fc : Fc F) {n : Nat} {x : Fa} : x ∈ sAt F n ↔ (x = [] ∧ n = 0) ∨ (x ∈ F ∧ x.length = n) := by
  unfold sAt
  by_cases h : n = 0
  · rw [if_pos h, List.mem_singleton]
    constructor
    · intro e; exact .inl ⟨e, h⟩
    · rintro (e | ⟨hx, e⟩)
      · exact e.1
      · exact absurd (List.length_eq_zero_iff.mp (e.trans h)) (fc.ne x hx)
  · rw [if_neg h, List.mem_filter]
    constructor
    · rintro ⟨h1, h2⟩; exact .inr ⟨h1, by simpa using h2⟩
    · rintro (e | ⟨hx, e⟩)
      · exact absurd e.2 h
      · exact ⟨hx, by simpa using e⟩
theorem sAt_nd {F : List Fa} (fc : Fc F) (n : Nat) : (sAt F n).Nodup := by
  unfold sAt
  split
  · simp
  · exact fc.nd.filter _
theorem sAt_len {F : List Fa} (fc : Fc F) (n : Nat) : (sAt F n).length ≤ 225 := by
  unfold sAt
  split
  · simp
  · exact Nat.le_trans (List.length_filter_le ..) fc.few
/-- the number at x in a list of pairs -/
def cfL (M : List (Fa × Int)) (x : Fa) : Int := ((M.find? fun p => p.1 == x).map (·.2)).getD 0
theorem cfL_not {M : List (Fa × Int)} {x : Fa} (h : x ∉ M.map (·.1)) : cfL M x = 0 := by
  unfold cfL
  rw [List.find?_eq_none.mpr]
  · rfl
  · intro p hp e
    exact h (List.mem_map.mpr ⟨p, hp, by simpa using e⟩)
theorem cfL_mem {M : List (Fa × Int)} {x : Fa} {n : Int} (hnd : (M.map (·.1)).Nodup) (h : (x, n) ∈ M) : cfL M x = n := by
  induction M with
  | nil => cases h
  | cons p r ih =>
    have hn := List.nodup_cons.mp (show (p.1 :: r.map (·.1)).Nodup from hnd)
    unfold cfL
    rcases List.mem_cons.mp h with rfl | h
    · rw [List.find?_cons_of_pos (by simp)]; rfl
    · have : p.1 ≠ x := fun e => hn.1 (by rw [e]; exact List.mem_map.mpr ⟨_, h, rfl⟩)
      rw [List.find?_cons_of_neg (by simpa using this)]
      exact ih hn.2 h
theorem cfL_snoc {M : List (Fa × Int)} {z : Fa} {n : Int} (hz : z ∉ M.map (·.1)) (x : Fa) : cfL (M ++ [(z, n)]) x = if x = z then n else cfL M x := by
  unfold cfL
  rw [List.find?_append]
  by_cases e : x = z
  · subst e
    rw [if_pos rfl, List.find?_eq_none.mpr]
    · simp
    · intro p hp e
      exact hz (List.mem_map.mpr ⟨p, hp, by simpa using e⟩)
  · rw [if_neg e, show List.find? (fun p : Fa × Int => p.1 == x) [(z, n)] = none from by simp [Ne.symm e], Option.or_none]
theorem cfL_perm {M L : List (Fa × Int)} (p : M.Perm L) (hnd : (L.map (·.1)).Nodup) (x : Fa) : cfL M x = cfL L x := by
  have hndM : (M.map (·.1)).Nodup := (p.map _).nodup_iff.mpr hnd
  by_cases h : x ∈ M.map (·.1)
  · obtain ⟨q, hq, rfl⟩ := List.mem_map.mp h
    rw [cfL_mem (n := q.2) hndM hq, cfL_mem (n := q.2) hnd (p.mem_iff.mp hq)]
  · have h2 : x ∉ L.map (·.1) := fun z => h ((p.map _).mem_iff.mpr z)
    rw [cfL_not h, cfL_not h2]
/-- the sign of x in the boundary of y -/
def cf (x y : Fa) : Int := cfL (bd y) x
def rowsOf (L U : List Fa) : List (List Int) := L.map fun x => U.map fun y => cf x y
end K96

/-! simplices_at. -/
namespace K96
open PySem PySem.Spec PyProof.Rows L2
section
variable {P : Program} {w : World} {K : PySem.W.Frag} {mg : Str → Option Value} {base : Heap} {C : Addr}

def spSimplicesAt (C : Addr) : Sp := fun vs H Q _ => ∃ (p d : Addr) (F : List Fa) (k : Int) (n : Nat), vs = [.ref p, .int k] ∧ k = (n : Int) - 1 ∧ Shp C H p d F ∧
  ∀ H' r ys M, Same H H' → H r = none → H' r = some (.lst ys) → TVs H' ys M → M.Perm (sAt F n) → Q (.ref r) H'
abbrev n_simplices_at : List Str := ["shape", "degree", "simplex"]
theorem sc_simplices_at : FnScope n_simplices_at ["shape", "degree"] (defScope (top 34)) := ⟨rfl, rfl, rfl, by decide +kernel, rfl, by decide +kernel, by decide +kernel⟩
theorem ok_simplices_at (N : Nm mg) (T : CxF K mg C) (D : Def K mg "simplices_at" (top 34)) (c1 : Cal P w K mg base "in_order" 1 ["simplices"] spInOrder) : Cal P w K mg base "simplices_at" 2 ["shape", "degree"] (spSimplicesAt C) := by
  obtain ⟨f1, fd1, G_in_order, g_in_order, k_in_order, b_in_order⟩ := c1.ex
  refine D.ok sc_simplices_at (fun vs H Q E h => ?_) (fun _ _ _ _ _ _ us hl => match us, hl with | [_, _], _ => rfl) (fun f cdv A outer s H vs Q E hr h => ?_)
  · obtain ⟨p, d, F, k, n, rfl, _⟩ := h
    rfl
  · obtain ⟨p, d, F, k, n, rfl, rfl, sh, q⟩ := h
    obtain ⟨⟨dx, fs, hp, hfs⟩, hF⟩ := id sh
    have hd := hF.at'
    have npd : p ≠ d := ne_of hp hd (by intro z; cases z)
    have hFl := hF.fc.few
    have hr1 : Room 1 _ := hr.mono (by decide)
    refine ⟨_, pss_cons (ps_if (pt_cmpR op_eq (pv 1) (pe_un un_neg pe_int) (nomark _)) (pss_one (ps_ret (pe_lst (pa_cons (pe_tup pa_nil) pa_nil)))) pss_nil)
      (pss_one (ps_ret (pe_call G_in_order hr1 (by rfl) g_in_order k_in_order b_in_order .nil pass0 (pa_cons (pe_lock (pe_lc (own := [("simplex", 2)]) (g := gName 2) rfl sc_simplices_at.nd (pi_keys (pe_fld (pv 0) rfl)) (blkOk_by (N := n_simplices_at) (sc := defScope (top 34)) (by decide +kernel)) (fun _ _ _ _ _ => (pg_name (i := 2) sc_simplices_at.nd rfl (Or.inl rfl))) (fun _ _ _ _ _ => (pts_one (pt_cmpR op_eq (pe_callB (call_lenK (K := K) rfl) (by rfl) N.len PySem.boot_len (pa_cons (pv 2) pa_nil)) (pe_op op_add (pv 1) pe_int) (nomark _)))) (fun _ _ _ _ _ => by exact (pv 2)))) pa_nil)))), ?_⟩
    refine ⟨_, rfl, _, rfl, rfl, _, rfl, ?_⟩
    by_cases hn : n = 0
    · subst hn
      refine ifT (decide_eq_true rfl) ?_
      refine ⟨by simp [sizeLine_eq], fun e he => ⟨by simp [sizeLine_eq], fun l hl => ?_⟩⟩
      have nle : e ≠ l := by rintro rfl; rw [upd_same] at hl; cases hl
      refine q _ l [.ref e] [[]] (Same.upd' (same_upd he) hl) ((same_upd he).free hl) upd_same (.cons ⟨e, rfl, ?_⟩ .nil) (List.Perm.refl _)
      show upd _ _ _ e = _
      rw [upd_ne nle, upd_same]
      rfl
    · refine ifF (decide_eq_false (fun z => hn (by have := V.int.inj z; omega))) ?_
      refine ⟨d, _, hd, trivial, fun od => ⟨_, rfl, p, C, dx, fs, _, rfl, by rw [upd_ne npd]; exact hp, T.ins.cl, T.nF, hfs, d, od, rfl, .inr ⟨dF F, upd_same, fun D1 hD => ?_⟩⟩⟩
      have bA : But d H (upd H d (.frz od (.dT (dF F)))) := But.upd
      have nDd : D1 ≠ d := by rintro rfl; rw [upd_same] at hD; cases hD
      have hD0 : H D1 = none := by rwa [upd_ne nDd] at hD
      refine lc_it walk_keysT (fun i H4 => ∃ acc, H4 D1 = some (.lst acc) ∧ TVs H4 acc ((F.take i).filter fun x => x.length == n) ∧ But d H H4 ∧ H4 d = some (.frz od (.dT (dF F)))) ?_ (fun i H4 _ ⟨_, _, _, _, h4⟩ => h4) ?_ ?_
      · exact ⟨[], upd_same, .nil, bA.trans (But.of_same (same_upd hD)), by rw [upd_ne (Ne.symm nDd), upd_same]⟩
      · rintro i v _ H4 hi ⟨acc, hD4, tv, b4, h4⟩ ⟨rfl, k, v', a, hk, rfl, ha⟩
        obtain ⟨x, hx, rfl⟩ := dF_get hk
        rw [dF_len] at hi
        have ha := key_ti ha
        have hlen : acc.length ≤ 225 := by
          rw [Paired.length tv]
          exact Nat.le_trans (List.length_filter_le ..) (Nat.le_trans (List.length_take_le' ..) hFl)
        refine ⟨rfl, _, rfl, a, _, rfl, .inr (SqT.of ha), _, rfl, _, _, rfl, rfl, rfl, _, rfl, ?_⟩
        rw [take_snoc hx, List.filter_append]
        by_cases hxn : x.length = n
        · refine ifT (decide_eq_true (by show V.int _ = V.int _; rw [List.length_map]; congr 1; omega)) ⟨_, rfl, acc, hD4, small_line (by omega), acc ++ [.ref a], upd_same, ?_, ?_, ?_⟩
          · rw [show List.filter (fun x => x.length == n) [x] = [x] by simp [hxn]]
            exact tvs_snoc (tv.but hD4 (fun _ z => nomatch z) But.upd) ⟨a, rfl, TI.but ha hD4 (fun _ z => nomatch z) But.upd⟩
          · intro b o e1 e2
            rw [upd_ne (ne_of_none e2 hD0)]
            exact b4 b o e1 e2
          · rw [upd_ne (Ne.symm nDd)]; exact h4
        · refine ifF (decide_eq_false (fun z => hxn (by have := V.int.inj z; rw [List.length_map] at this; omega))) ⟨acc, hD4, ?_, b4, h4⟩
          rw [show List.filter (fun x => x.length == n) [x] = [] by simp [hxn], List.append_nil]
          exact tv
      · rintro H4 ⟨acc, hD4, tv, b4, h4⟩
        rw [dF_len, List.take_length] at tv
        have sB : Same H (upd H4 d (.dT (dF F))) := But.back b4 hd
        refine ⟨h4, ?_⟩
        dsimp only [tNil]
        refine ⟨D1, acc, _, rfl, by rw [upd_ne nDd]; exact hD4, tv.but h4 (fun _ z => nomatch z) But.upd, Nat.le_trans (List.length_filter_le ..) (by omega), fun H5 r ys M s5 hr5 hr5' tM pM => ?_⟩
        refine q H5 r ys M (sB.trans s5) (sB.free hr5) hr5' tM ?_
        unfold sAt
        rw [if_neg hn]
        exact pM
end
end K96

/-! Plain: a matrix by its entries. -/
namespace K96
/-- each with its place -/
def nmb (L : List Fa) : List (Fa × Int) := L.zipIdx.map fun p => (p.1, (p.2 : Int))
theorem nmb_snoc (L : List Fa) (x : Fa) : nmb (L ++ [x]) = nmb L ++ [(x, (L.length : Int))] := by
  unfold nmb
  rw [List.zipIdx_append, List.map_append]
  simp
theorem nmb_fst (L : List Fa) : (nmb L).map (·.1) = L := by
  unfold nmb
  rw [List.map_map]
  show List.map (fun p : Fa × Nat => p.1) L.zipIdx = L
  simp
theorem nmb_len (L : List Fa) : (nmb L).length = L.length := by simp [nmb]
theorem nmb_mem {L : List Fa} {a : Nat} {x : Fa} (h : L[a]? = some x) : (x, (a : Int)) ∈ nmb L := by
  unfold nmb
  refine List.mem_map.mpr ⟨(x, a), ?_, rfl⟩
  rw [List.mem_zipIdx_iff_getElem?]
  exact h
def mat (L : List Fa) (m : Nat) (f : Fa → Nat → Int) : List (List Int) := L.map fun x => (List.range m).map (f x)
theorem mat_at {L : List Fa} {m a : Nat} {f : Fa → Nat → Int} {x : Fa} (h : L[a]? = some x) : (mat L m f)[a]? = some ((List.range m).map (f x)) := by
  unfold mat
  rw [List.getElem?_map, h]
  rfl
theorem mat_set {L : List Fa} {m a j : Nat} {f : Fa → Nat → Int} {x : Fa} {v : Int} (hnd : L.Nodup) (h : L[a]? = some x) :
    (mat L m f).set a (((List.range m).map (f x)).set j v) = mat L m fun x' b => if x' = x ∧ b = j then v else f x' b := by
  obtain ⟨ha, ex⟩ := List.getElem?_eq_some_iff.mp h
  refine List.ext_getElem (by simp [mat]) fun i h1 h2 => ?_
  rw [List.getElem_set]
  simp only [mat, List.getElem_map]
  have hi : i < L.length := by simpa [mat] using h2
  by_cases e : a = i
  · subst e
    rw [if_pos rfl]
    refine List.ext_getElem (by simp) fun b h3 h4 => ?_
    rw [List.getElem_set]
    simp only [List.getElem_map, List.getElem_range, ex, true_and]
    by_cases e2 : j = b
    · subst e2; simp
    · rw [if_neg e2, if_neg (fun z => e2 z.symm)]
  · rw [if_neg e]
    have hne : L[i] ≠ x := by
      intro z
      rw [← ex] at z
      have hp := List.pairwise_iff_getElem.mp hnd
      rcases Nat.lt_or_gt_of_ne e with q | q
      · exact hp a i ha hi q z.symm
      · exact hp i a hi ha q z
    simp [hne]
theorem mat_congr {L : List Fa} {m : Nat} {f g : Fa → Nat → Int} (h : ∀ x ∈ L, ∀ b, b < m → f x b = g x b) : mat L m f = mat L m g := by
  unfold mat
  refine List.map_congr_left fun x hx => List.map_congr_left fun b hb => h x hx b (List.mem_range.mp hb)
/-- the entries when the columns below j are there, and column j as far as the pairs B -/
def ent (U : List Fa) (j : Nat) (B : List (Fa × Int)) (x : Fa) (b : Nat) : Int := if b < j then cf x (U.getD b []) else if b = j then cfL B x else 0
theorem ent_zero (L U : List Fa) (m : Nat) : mat L m (ent U 0 []) = List.replicate L.length (List.replicate m 0) := by
  unfold mat
  refine List.ext_getElem (by simp) fun i h1 h2 => ?_
  refine List.ext_getElem (by simp) fun b h3 h4 => ?_
  simp [ent, cfL]
theorem ent_next {L U : List Fa} {m j : Nat} {B : List (Fa × Int)} {y : Fa} (hy : U[j]? = some y) (hB : ∀ x, cfL B x = cf x y) : mat L m (ent U j B) = mat L m (ent U (j + 1) []) := by
  refine mat_congr fun x _ b _ => ?_
  unfold ent
  by_cases h1 : b < j
  · rw [if_pos h1, if_pos (by omega)]
  · rw [if_neg h1]
    by_cases h2 : b = j
    · subst h2
      rw [if_pos rfl, if_pos (by omega), hB, List.getD_eq_getElem?_getD, hy]
      rfl
    · rw [if_neg h2, if_neg (by omega)]
      split <;> rfl
theorem ent_set {L U : List Fa} {m j : Nat} {B : List (Fa × Int)} {z : Fa} {v : Int} (hz : z ∉ B.map (·.1)) : (mat L m fun x' b => if x' = z ∧ b = j then v else ent U j B x' b) = mat L m (ent U j (B ++ [(z, v)])) := by
  refine mat_congr fun x _ b _ => ?_
  unfold ent
  by_cases h1 : b = j
  · subst h1
    rw [if_neg (Nat.lt_irrefl b), if_neg (Nat.lt_irrefl b), if_pos rfl, if_pos rfl, cfL_snoc hz]
    by_cases e : x = z
    · rw [if_pos ⟨e, rfl⟩, if_pos e]
    · rw [if_neg (fun q => e q.1), if_neg e]
  · rw [if_neg (fun q => h1 q.2), if_neg h1, if_neg h1]
theorem ent_done {L U : List Fa} : mat L U.length (ent U U.length []) = rowsOf L U := by
  unfold mat rowsOf
  refine List.map_congr_left fun x _ => ?_
  refine List.ext_getElem (by simp) fun b h1 h2 => ?_
  have hb : b < U.length := by simpa using h2
  simp [ent, hb]
end K96

/-! rows_at. -/
namespace K96
open PySem PySem.Spec PyProof.Rows L2
/-- a list of ints -/
def RwT (H : Hp) (v : V) (row : List Int) : Prop := ∃ a, v = .ref a ∧ H a = some (.lst (row.map V.int))
abbrev Rws (H : Hp) (xs : List V) (R : List (List Int)) : Prop := Paired (RwT H) xs R
/-- a matrix: a list of lists of ints -/
def Mx (H : Hp) (r : Addr) (R : List (List Int)) : Prop := ∃ xs, H r = some (.lst xs) ∧ Rws H xs R
theorem Rws.other {H : Hp} {xs : List V} {R : List (List Int)} (h : Rws H xs R) {q : Addr} {o : HO} (hq : V.ref q ∉ xs) : Rws (upd H q o) xs R := by
  induction h with
  | nil => exact .nil
  | @cons v row xs R h t ih =>
    have hq' : ¬ V.ref q = v ∧ V.ref q ∉ xs := by simpa using hq
    obtain ⟨a, rfl, ha⟩ := h
    exact .cons ⟨a, rfl, by rw [upd_ne (fun z => hq'.1 (by rw [z]))]; exact ha⟩ (ih hq'.2)
theorem Rws.set {H : Hp} {xs : List V} {R : List (List Int)} (h : Rws H xs R) (hnd : xs.Nodup) {q : Addr} {a : Nat} (row : List Int) (hq : xs[a]? = some (.ref q)) : Rws (upd H q (.lst (row.map V.int))) xs (R.set a row) := by
  induction h generalizing a with
  | nil => simp at hq
  | @cons v r xs R h t ih =>
    have hn := List.nodup_cons.mp hnd
    cases a with
    | zero =>
      have e : v = .ref q := by simpa using hq
      rw [e] at hn
      rw [List.set_cons_zero]
      exact .cons ⟨q, e, upd_same⟩ (Rws.other t hn.1)
    | succ a =>
      have e : xs[a]? = some (.ref q) := by simpa using hq
      obtain ⟨b, rfl, hb⟩ := h
      rw [List.set_cons_succ]
      refine .cons ⟨b, rfl, ?_⟩ (ih hn.2 e)
      rw [upd_ne]
      · exact hb
      · rintro rfl
        exact hn.1 (List.mem_of_getElem? e)
theorem Rws.same {H H' : Hp} (e : Same H H') {xs : List V} {R : List (List Int)} (h : Rws H xs R) : Rws H' xs R := Paired.mapP h fun _ _ ⟨a, z, z2⟩ => ⟨a, z, e _ _ z2⟩
theorem Mx.same {H H' : Hp} {r : Addr} {R : List (List Int)} (h : Mx H r R) (e : Same H H') : Mx H' r R := by
  obtain ⟨xs, h1, h2⟩ := h
  exact ⟨xs, e _ _ h1, h2.same e⟩
theorem ixn_nat {n j : Nat} (hj : j < n) : ixN n (j : Int) = some j := by
  unfold ixN
  simp [hj]
theorem DGet.t' {H : Hp} {a b : Addr} {kvs : List (List Key × V)} {k : List Key} {o : Option V} (e : H a = some (.dT kvs)) (eb : H b = some (.tup (k.map kV))) (ev : valV kvs k = o) : DGet H a (.ref b) o := by
  subst ev
  exact DGet.t e eb
theorem valN_at {L : List Fa} (hnd : L.Nodup) {x : Fa} {a : Nat} (h : L[a]? = some x) : valV (dN (nmb L)) (ky x) = some (.int (a : Int)) := by
  have hm := nmb_mem h
  have hnd2 : ((nmb L).map (·.1)).Nodup := by rw [nmb_fst]; exact hnd
  generalize nmb L = G at hm hnd2
  induction G with
  | nil => cases hm
  | cons p r ih =>
    have hn := List.nodup_cons.mp (show (p.1 :: r.map (·.1)).Nodup from hnd2)
    show valV ((ky p.1, V.int p.2) :: dN r) (ky x) = _
    rcases List.mem_cons.mp hm with e | hm
    · rw [← e, valV_pos rfl]
    · have : p.1 ≠ x := fun e => hn.1 (by rw [e]; exact List.mem_map.mpr ⟨_, hm, rfl⟩)
      rw [valV_neg (fun z => this (ky_inj z))]
      exact ih hm hn.2
section
variable {P : Program} {w : World} {K : PySem.W.Frag} {mg : Str → Option Value} {base : Heap} {C : Addr}

def spRowsAt (C : Addr) : Sp := fun vs H Q _ => ∃ (p d : Addr) (F : List Fa) (k : Int) (n : Nat), vs = [.ref p, .int k] ∧ k = (n : Int) ∧ Shp C H p d F ∧
  ∀ H' r L U, Same H H' → Mx H' r (rowsOf L U) → L.Perm (sAt F n) → U.Perm (sAt F (n + 1)) → Q (.ref r) H'
abbrev n_rows_at : List Str := ["shape", "degree", "lower", "upper", "found", "column", "simplex", "part", "number", "at", "row"]
theorem sc_rows_at : FnScope n_rows_at ["shape", "degree"] (defScope (top 35)) := ⟨rfl, rfl, rfl, by decide +kernel, rfl, by decide +kernel, by decide +kernel⟩
theorem ok_rows_at (N : Nm mg) (D : Def K mg "rows_at" (top 35)) (c1 : Cal P w K mg base "simplices_at" 2 ["shape", "degree"] (spSimplicesAt C)) (c2 : Cal P w K mg base "boundary_in" 2 ["chain"] spBoundary) :
    Cal P w K mg base "rows_at" 3 ["shape", "degree"] (spRowsAt C) := by
  obtain ⟨f1, fd1, G_simplices_at, g_simplices_at, k_simplices_at, b_simplices_at⟩ := c1.ex
  obtain ⟨f2, fd2, G_boundary_in, g_boundary_in, k_boundary_in, b_boundary_in⟩ := c2.ex
  refine D.ok sc_rows_at (fun vs H Q E h => ?_) (fun _ _ _ _ _ _ us hl => match us, hl with | [_, _], _ => rfl) (fun f cdv A outer s H vs Q E hr h => ?_)
  · obtain ⟨p, d, F, k, n, rfl, _⟩ := h
    rfl
  · obtain ⟨p, d, F, k, n, rfl, rfl, sh, q⟩ := h
    obtain ⟨⟨dx, fs, hp, hfs⟩, hF⟩ := id sh
    have hr2 : Room 2 _ := hr
    have hu := hu_of hr
    have hu0 : (A.deeper (envOfC "rows_at" (defScope (top 35)) s.heap.objs.size f cdv)).units < cLine := by have := hr.units; omega
    refine ⟨_, pss_cons (ps_setDcT (i := 2) (own := [("at", 9), ("simplex", 6)]) (g := gTup K 2 (gCons (gName 9) (gCons (gName 6) gNil))) rfl hu0 sc_rows_at.nd rfl rfl (swD_true rfl rfl rfl (by decide +kernel)) (pi_enum (by rfl) N.enum (pa_cons (pe_call G_simplices_at hr2 (by rfl) g_simplices_at k_simplices_at b_simplices_at .nil pass0 (pa_cons (pv 0) (pa_cons (pe_op op_sub (pv 1) pe_int) pa_nil))) pa_nil)) (blkOk_by (N := n_rows_at) (sc := defScope (top 35)) (by decide +kernel)) ⟨fun _ _ _ _ _ => (pg_tup rfl (pgs_cons (pg_name (i := 9) sc_rows_at.nd rfl (Or.inl rfl)) (pgs_cons (pg_name (i := 6) sc_rows_at.nd rfl (Or.inl rfl)) pgs_nil))), fun _ _ _ _ _ => by exact (pv 6), fun _ _ _ _ _ => by exact (pv 9)⟩)
      (pss_cons (ps_set (i := 3) sc_rows_at.nd rfl (Or.inr rfl) (pe_call G_simplices_at hr2 (by rfl) g_simplices_at k_simplices_at b_simplices_at .nil pass0 (pa_cons (pv 0) (pa_cons (pv 1) pa_nil))))
      (pss_cons (ps_lock (ps_setLc (i := 4) (own := [("row", 10)]) (g := gName 10) (tt := tYes) rfl sc_rows_at.nd rfl rfl (sw_true rfl rfl rfl (by decide +kernel)) (pi_keys (pv 2)) (blkOk_by (N := n_rows_at) (sc := defScope (top 35)) (by decide +kernel)) (fun _ _ _ _ _ => (pg_name (i := 10) sc_rows_at.nd rfl (Or.inl rfl))) (fun _ _ _ _ _ => pts_nil) (fun _ _ _ _ _ => by exact (pe_op op_rep (pe_lst (pa_cons pe_int pa_nil)) (pe_callB (call_lenK (K := K) rfl) (by rfl) N.len PySem.boot_len (pa_cons (pv 3) pa_nil))))))
      (pss_cons (ps_for PassesOwn.never rfl (pi_enum (by rfl) N.enum (pa_cons (pv 3) pa_nil)) (pg_tup rfl (pgs_cons (pg_name (i := 5) sc_rows_at.nd rfl (Or.inl rfl)) (pgs_cons (pg_name (i := 6) sc_rows_at.nd rfl (Or.inl rfl)) pgs_nil)))
      (pss_one (ps_for PassesOwn.never rfl (pi_tup (pe_call G_boundary_in hr2 (by rfl) g_boundary_in k_boundary_in b_boundary_in .nil pass0 (pa_cons (pe_tup (pa_cons (pe_tup (pa_cons (pv 6) (pa_cons pe_int pa_nil))) pa_nil)) pa_nil))) (pg_tup rfl (pgs_cons (pg_name (i := 7) sc_rows_at.nd rfl (Or.inl rfl)) (pgs_cons (pg_name (i := 8) sc_rows_at.nd rfl (Or.inl rfl)) pgs_nil)))
      (pss_one (ps_asg (pv 8) (pg_sub (pe_ix ix_list (pv 4) (pe_dget hu (pv 2) (pv 7) (fun _ _ => rfl)) (fun _ _ => rfl)) (pv 5) set_list))))))
      (pss_one (ps_ret (pv 4)))))), ?_⟩
    -- lower
    refine ⟨_, rfl, _, rfl, _, _, rfl, rfl, p, d, F, _, n, rfl, rfl, sh, fun H2 l2 ysL L s2 hl2 hl2' tL pL => ⟨l2, ysL, rfl, SqL.of hl2', fun D1 hD1 => ?_⟩⟩
    have hLnd : L.Nodup := pL.nodup_iff.mpr (sAt_nd hF.fc n)
    have hLl : L.length ≤ 225 := by rw [pL.length_eq]; exact sAt_len hF.fc n
    have hyL := Paired.length tL
    refine dcT_it walk_enum (fun i H4 => Same H2 H4 ∧ H4 D1 = some (.dT (dN (nmb (L.take i))))) ⟨same_upd hD1, upd_same⟩ (fun i H4 _ h => SqL.of (h.1 _ _ hl2')) ?_ ?_
    · rintro i v H4 _ hi ⟨s4, hD4⟩ ⟨T, z1, z2, rfl, hT, rfl, e2, hv⟩
      cases e2
      obtain ⟨x, hx, a, rfl, ha⟩ := tvs_at tL hv
      have s5 : Same H4 (upd H4 T (.tup [.int (i : Nat), .ref a])) := same_upd hT
      have hTt : upd H4 T (.tup [.int (i : Nat), .ref a]) T = some (.tup [.int (i : Nat), .ref a]) := upd_same
      refine ⟨T, _, rfl, SqT.of hTt, rfl, _, _, rfl, _, _, rfl, rfl, rfl, ?_⟩
      refine ⟨_, rfl, _, rfl, a, ky x, _, rfl, ti_key (s5 _ _ (s4 _ _ ha)), s5 _ _ hD4, ?_, ?_, ?_⟩
      · rw [dN_len, nmb_len]
        have := List.length_take_le' i L
        exact small_line (by omega)
      · intro b o e
        rw [upd_ne (ne_of_none e hD1)]
        exact s5 _ _ (s4 b o e)
      · rw [upd_same]
        have hno : x ∉ (nmb (L.take i)).map (·.1) := by
          rw [nmb_fst]
          intro hm
          have h2 : (L.take (i + 1)).Nodup := hLnd.sublist (List.take_sublist ..)
          rw [take_snoc hx, List.nodup_append] at h2
          exact h2.2.2 x hm x (by simp) rfl
        rw [putK_new _ (dN_none hno), take_snoc hx, nmb_snoc, List.length_take, Nat.min_eq_left (by rw [← hyL]; omega)]
        simp [dN]
    rintro H4 ⟨s4, hD4⟩
    rw [hyL, List.take_length] at hD4
    have sA := s2.trans s4
    -- upper
    refine ⟨_, rfl, _, rfl, p, d, F, _, n + 1, rfl, by omega, sh.same sA, fun H5 lU ysU U s5 hlU hlU' tU pU => ?_⟩
    have hUnd : U.Nodup := pU.nodup_iff.mpr (sAt_nd hF.fc (n + 1))
    have hUl : U.length ≤ 225 := by rw [pU.length_eq]; exact sAt_len hF.fc (n + 1)
    have hyU := Paired.length tU
    have sB := sA.trans s5
    have hD5 := s5 _ _ hD4
    -- found
    refine ⟨D1, _, hD5, trivial, fun od => ⟨_, rfl, D1, od, rfl, .inr ⟨dN (nmb L), upd_same, fun E1 hE1 => ?_⟩⟩⟩
    have bA : But D1 H5 (upd H5 D1 (.frz od (.dT (dN (nmb L))))) := But.upd
    have nED : E1 ≠ D1 := by rintro rfl; rw [upd_same] at hE1; cases hE1
    have hE0 : H5 E1 = none := by rwa [upd_ne nED] at hE1
    have nUD : lU ≠ D1 := by rintro rfl; rw [hlU'] at hD5; cases hD5
    refine lc_it walk_keysT (fun i H6 => ∃ acc, H6 E1 = some (.lst acc) ∧ Rws H6 acc (List.replicate i (List.replicate U.length 0)) ∧ acc.Nodup ∧ (∀ a, V.ref a ∈ acc → H5 a = none ∧ a ≠ E1) ∧ But D1 H5 H6 ∧ H6 D1 = some (.frz od (.dT (dN (nmb L)))))
      ?_ (fun i H4 _ ⟨_, _, _, _, _, _, h4⟩ => h4) ?_ ?_
    · exact ⟨[], upd_same, .nil, List.nodup_nil, fun _ z => (nomatch z), bA.trans (But.of_same (same_upd hE1)), by rw [upd_ne (Ne.symm nED), upd_same]⟩
    · rintro i v _ H6 hi ⟨acc, hE6, rw6, hnd6, hfr6, b6, h6⟩ ⟨rfl, k, v', a, hk, rfl, ha⟩
      rw [dN_len, nmb_len] at hi
      have hlU6 := b6 _ _ nUD hlU'
      refine ⟨rfl, by simp [sizeLine_eq], fun b hb => ⟨_, rfl, lU, ysU, rfl, .inl (SqL.of (same_upd hb _ _ hlU6)), b, _, _, rfl, rfl, upd_same, by omega, by omega, by simp [sizeLine_eq]; omega, fun r hr => ?_⟩⟩
      have s7 : Same H6 (upd (upd H6 b (.lst [.int 0])) r (.lst (List.replicate ((ysU.length : Int)).toNat [V.int 0]).flatten)) := Same.upd' (same_upd hb) hr
      have hr0 : H6 r = none := (same_upd (o := .lst [.int 0]) hb).free hr
      have nrE : r ≠ E1 := by rintro rfl; rw [hE6] at hr0; cases hr0
      have nrD : r ≠ D1 := by rintro rfl; rw [h6] at hr0; cases hr0
      have hr5 : H5 r = none := b6.gone hr0 nrD
      have hacc : acc.length ≤ 225 := by rw [Paired.length rw6, List.length_replicate]; omega
      have hrn : V.ref r ∉ acc := fun z => by
        obtain ⟨y, _, b', e1, e2⟩ := paired_mem rw6 z
        cases e1
        rw [hr0] at e2
        cases e2
      refine ⟨acc, s7 _ _ hE6, small_line (by omega), acc ++ [.ref r], upd_same, ?_, ?_, ?_, ?_, ?_⟩
      · rw [List.replicate_succ']
        refine Paired.snoc (Rws.other (rw6.same s7) (fun z => (hfr6 E1 z).2 rfl)) ⟨r, rfl, ?_⟩
        rw [upd_ne nrE, upd_same, flat_one, Int.toNat_natCast, hyU]
        simp
      · exact List.nodup_append.mpr ⟨hnd6, by simp, fun x hx y hy => by rw [List.mem_singleton.mp hy]; rintro rfl; exact hrn hx⟩
      · intro c hc
        rcases List.mem_append.mp hc with hc | hc
        · exact hfr6 c hc
        · cases List.mem_singleton.mp hc
          exact ⟨hr5, nrE⟩
      · intro c o e1 e2
        rw [upd_ne (ne_of_none e2 hE0)]
        exact s7 _ _ (b6 c o e1 e2)
      · rw [upd_ne (Ne.symm nED)]; exact s7 _ _ h6
    rintro H6 ⟨acc, hE6, rw6, hnd6, hfr6, b6, h6⟩
    rw [dN_len, nmb_len, ← ent_zero L U] at rw6
    refine ⟨h6, ?_⟩
    have sC : Same H5 (upd H6 D1 (.dT (dN (nmb L)))) := But.back b6 hD5
    have hE7 : upd H6 D1 (.dT (dN (nmb L))) E1 = some (.lst acc) := by rw [upd_ne nED]; exact hE6
    have rw7 : Rws (upd H6 D1 (.dT (dN (nmb L)))) acc (mat L U.length (ent U 0 [])) := by
      refine rw6.other fun z => ?_
      have := (hfr6 D1 z).1
      rw [hD5] at this
      cases this
    generalize upd H6 D1 (.dT (dN (nmb L))) = H7 at sC hE7 rw7
    clear rw6 b6 h6 hE6 H6
    -- for column, simplex in enumerate(upper)
    refine ⟨_, rfl, lU, ysU, rfl, SqL.of (sC _ _ hlU'), for_it walk_enum (fun j σ H8 => ∃ (u5 u6 u7 u8 : Option V), σ = [some (.ref p), some (.int n), some (.ref D1), some (.ref lU), some (.ref E1), u5, u6, u7, u8, none, none] ∧ Same H5 H8 ∧ H8 E1 = some (.lst acc) ∧
        Rws H8 acc (mat L U.length (ent U j [])))
      ⟨none, none, none, none, rfl, sC, hE7, rw7⟩ (fun i σ H8 _ ⟨_, _, _, _, _, s8, _⟩ => SqL.of (s8 _ _ hlU')) ?_ ?_⟩
    · rintro j v _ H8 _ hj ⟨u5, u6, u7, u8, rfl, s8, hE8, rw8⟩ ⟨T, z1, z2, rfl, hT, rfl, e2, hv⟩
      cases e2
      obtain ⟨y, hy, a, rfl, ha⟩ := tvs_at tU hv
      have hyU' : y ∈ U := List.mem_of_getElem? hy
      have hyF : y ∈ F ∧ y.length = n + 1 := by
        rcases (mem_sAt hF.fc).mp (pU.mem_iff.mp hyU') with z | z
        · exact absurd z.2 (by omega)
        · exact z
      have hjm : j < U.length := by rw [← hyU]; exact hj
      have s9 : Same H8 (upd H8 T (.tup [.int (j : Nat), .ref a])) := same_upd hT
      have hTt : upd H8 T (.tup [.int (j : Nat), .ref a]) T = some (.tup [.int (j : Nat), .ref a]) := upd_same
      refine ⟨T, _, rfl, SqT.of hTt, rfl, _, _, rfl, _, _, rfl, rfl, ?_⟩
      refine ⟨_, rfl, by simp [sizeLine_eq], fun t1 ht1 => ⟨by simp [sizeLine_eq], fun t2 ht2 => ?_⟩⟩
      have s10 := Same.upd' (o := .tup [.ref a, .int 1]) s9 ht1
      have s11 := Same.upd' (o := .tup [.ref t1]) s10 ht2
      have hup : y.Pairwise (· < ·) := hF.fc.up y hyF.1
      have ht1' := same_upd (o := .tup [.ref t1]) ht2 _ _ (upd_same (H := upd H8 T (.tup [.int (j : Nat), .ref a])) (a := t1) (o := .tup [.ref a, .int 1]))
      refine ⟨t2, t1, a, y, rfl, upd_same, ht1', s11 _ _ (s8 _ _ ha), hup, by have := hF.fc.len y hyF.1; omega, fun H9 r ys B s12 hr9 tB pB => ?_⟩
      have hBnd : (B.map (·.1)).Nodup := by
        rw [(pB.map _).nodup_iff, bd_fst]
        exact ers_nd hup
      have hcfB : ∀ x, cfL B x = cf x y := cfL_perm pB (by rw [bd_fst]; exact ers_nd hup)
      have hBL : ∀ z ∈ B, z.1 ∈ L := fun z hz => by
        have h1 : z.1 ∈ ers y := by rw [← bd_fst]; exact List.mem_map.mpr ⟨z, pB.mem_iff.mp hz, rfl⟩
        have h2 := mem_ers.mp h1
        have h3 := h2.len
        refine pL.mem_iff.mpr ((mem_sAt hF.fc).mpr ?_)
        by_cases hn : n = 0
        · exact .inl ⟨List.length_eq_zero_iff.mp (by omega), hn⟩
        · refine .inr ⟨hF.fc.cl y hyF.1 _ (fun q => ?_) h2.sub, by omega⟩
          rw [q] at h3
          simp at h3
          omega
      have s13 := s11.trans s12
      have s14 : Same H5 H9 := s8.trans s13
      have hE9 := s13 _ _ hE8
      have rw9 := rw8.same s13
      -- for part, number in boundary_in(..)
      refine ⟨r, rfl, ⟨_, SqT.of hr9⟩, for_it walk_tup (fun i σ H10 => ∃ (u7 u8 : Option V), σ = [some (.ref p), some (.int n), some (.ref D1), some (.ref lU), some (.ref E1), some (.int j), some (.ref a), u7, u8, none, none] ∧ Same H5 H10 ∧ H10 E1 = some (.lst acc) ∧
          Rws H10 acc (mat L U.length (ent U j (B.take i))) ∧ H10 r = some (.tup ys) ∧ NPs H10 ys B)
        ⟨u7, u8, rfl, s14, hE9, rw9, hr9, tB⟩ (fun i σ H10 _ ⟨_, _, _, _, _, _, h10, _⟩ => SqT.of h10) ?_ ?_⟩
      · rintro i v _ _ H10 hi ⟨u7, u8, rfl, s10', hE10, rw10, hr10, tB10⟩ ⟨rfl, hv⟩
        obtain ⟨⟨z, nn⟩, hz, t, q0, rfl, ht, hq0⟩ := paired_get tB10 hv
        have hzB : (z, nn) ∈ B := List.mem_of_getElem? hz
        obtain ⟨ia, hia⟩ := List.mem_iff_getElem?.mp (hBL _ hzB)
        dsimp only at hia hq0 ht
        refine ⟨t, _, rfl, SqT.of ht, rfl, _, _, rfl, _, _, rfl, rfl, ?_⟩
        have hmat := mat_at (m := U.length) (f := ent U j (B.take i)) hia
        have hial : ia < acc.length := by
          rw [Paired.length rw10]
          exact (List.getElem?_eq_some_iff.mp hmat).1
        obtain ⟨row, hrow, q, hq, hq'⟩ := paired_get rw10 (List.getElem?_eq_getElem hial)
        rw [hmat] at hrow
        cases hrow
        have hacq : acc[ia]? = some (.ref q) := by rw [List.getElem?_eq_getElem hial, hq]
        have hqm : V.ref q ∈ acc := List.mem_of_getElem? hacq
        have hqf := hfr6 q hqm
        refine ⟨_, rfl, _, rfl, _, rfl, _, rfl, D1, .int (ia : Int), rfl, DGet.t' (s10' _ _ hD5) (ti_key hq0) (valN_at hLnd hia), E1, acc, (ia : Int), .ref q, rfl, rfl, SqL.of hE10, atI_nat hacq, _, rfl, q, _, (j : Int), j, rfl, rfl, hq', ixn_nat (by simpa using hjm), ?_⟩
        refine ⟨_, _, rfl, fun b o e => ?_, ?_, ?_, tup_but hr10 hq' (fun _ z => nomatch z) But.upd, NPs.but tB10 hq' (fun _ z => nomatch z) But.upd⟩
        · rw [upd_ne (ne_of_none e hqf.1)]
          exact s10' b o e
        · rw [upd_ne (Ne.symm hqf.2)]
          exact hE10
        · have hno : z ∉ (B.take i).map (·.1) := fun hm => by
            have h2 : ((B.take (i + 1)).map (·.1)).Nodup := hBnd.sublist ((List.take_sublist ..).map _)
            rw [take_snoc hz, List.map_append, List.nodup_append] at h2
            exact h2.2.2 _ hm z (by simp) rfl
          rw [take_snoc hz, ← ent_set hno, ← mat_set hLnd hia, ← List.map_set]
          exact Rws.set rw10 hnd6 _ hacq
      · rintro _ H10 ⟨u7, u8, rfl, s10', hE10, rw10, hr10, tB10⟩
        rw [Paired.length tB10, List.take_length, ent_next hy hcfB] at rw10
        exact ⟨_, _, _, _, rfl, s10', hE10, rw10⟩
    · rintro _ H8 ⟨u5, u6, u7, u8, rfl, s8, hE8, rw8⟩
      rw [hyU, ent_done] at rw8
      exact ⟨_, rfl, q H8 E1 L U (sB.trans s8) ⟨acc, hE8, rw8⟩ pL pU⟩
end
end K96

/-! Plain: elimination by a prime keeps the span; at its end the rank is told. -/
namespace K96
/-- a row by its places -/
def fn (row : List Int) : Nat → Int := fun j => row.getD j 0
/-- row j, place b -/
def a2 (R : List (List Int)) (j b : Nat) : Int := (R.getD j []).getD b 0
/-- a matrix as wide as W, its entries reduced, its rows of the same span as those of R0 -/
structure Eqv (p : Int) (W : Nat) (R0 R : List (List Int)) : Prop where
  len : R.length = R0.length
  wid : ∀ row ∈ R, row.length = W
  red : ∀ row ∈ R, ∀ e ∈ row, 0 ≤ e ∧ e < p
  sp1 : ∀ row ∈ R, Spn p (R0.map fn) (fn row)
  sp2 : ∀ row ∈ R0, Spn p (R.map fn) (fn row)
theorem fn_map (f : Int → Int) (h0 : f 0 = 0) (row : List Int) (j : Nat) : fn (row.map f) j = f (fn row j) := by
  unfold fn
  rw [List.getD_eq_getElem?_getD, List.getD_eq_getElem?_getD, List.getElem?_map]
  cases row[j]? with
  | none => simp [h0]
  | some x => rfl
theorem dvd_mod_sub (p x : Int) : p ∣ x % p - x := ⟨-(x / p), by have := Int.mul_ediv_add_emod x p; grind⟩
theorem Eqv.start {p : Int} (hp : Pr p) {W : Nat} {R0 : List (List Int)} (hw : ∀ row ∈ R0, row.length = W) : Eqv p W R0 (R0.map fun row => row.map fun x => x % p) where
  len := by simp
  wid := fun row hr => by
    obtain ⟨r, h1, rfl⟩ := List.mem_map.mp hr
    rw [List.length_map]
    exact hw r h1
  red := fun row hr e he => by
    obtain ⟨r, h1, rfl⟩ := List.mem_map.mp hr
    obtain ⟨x, h2, rfl⟩ := List.mem_map.mp he
    have := hp.pos
    exact ⟨Int.emod_nonneg x (by omega), Int.emod_lt_of_pos x (by omega)⟩
  sp1 := fun row hr => by
    obtain ⟨r, h1, rfl⟩ := List.mem_map.mp hr
    refine (Spn.mem (List.mem_map.mpr ⟨r, h1, rfl⟩)).congr fun j => ?_
    rw [fn_map (fun x => x % p) (by simp)]
    exact dvd_mod_sub p _
  sp2 := fun row hr => by
    refine (Spn.mem (List.mem_map.mpr ⟨_, List.mem_map.mpr ⟨row, hr, rfl⟩, rfl⟩)).congr fun j => ?_
    rw [fn_map (fun x => x % p) (by simp)]
    obtain ⟨k, hk⟩ := dvd_mod_sub p (fn row j)
    exact ⟨-k, by grind⟩
theorem mem_getD {R : List (List Int)} {j : Nat} (h : j < R.length) : R.getD j [] ∈ R := by
  rw [List.getD_eq_getElem?_getD, List.getElem?_eq_getElem h]
  exact List.getElem_mem h
/-- one row replaced by a multiple of it and of another -/
theorem Eqv.set {p : Int} {W : Nat} {R0 R : List (List Int)} (h : Eqv p W R0 R) {i k : Nat} {row : List Int} {a a' b : Int} (hi : i < R.length) (hk : k < R.length) (hik : k ≠ i ∨ b = 0) (ha : p ∣ a * a' - 1)
    (hw : row.length = W) (hr : ∀ e ∈ row, 0 ≤ e ∧ e < p) (he : ∀ j, p ∣ fn row j - a * a2 R i j - b * a2 R k j) : Eqv p W R0 (R.set i row) where
  len := by rw [List.length_set]; exact h.len
  wid := fun r hm => by
    rcases List.mem_or_eq_of_mem_set hm with z | z
    · exact h.wid r z
    · rw [z]; exact hw
  red := fun r hm => by
    rcases List.mem_or_eq_of_mem_set hm with z | z
    · exact h.red r z
    · rw [z]; exact hr
  sp1 := fun r hm => by
    rcases List.mem_or_eq_of_mem_set hm with z | z
    · exact h.sp1 r z
    · rw [z]
      exact Spn.lin a b (h.sp1 _ (mem_getD hi)) (h.sp1 _ (mem_getD hk)) he
  sp2 := fun r hm => by
    have hrow : row ∈ R.set i row := by
      rw [List.mem_iff_getElem?]
      exact ⟨i, by rw [List.getElem?_set_self hi]⟩
    refine (h.sp2 r hm).trans fun e he' => ?_
    obtain ⟨r', hr', rfl⟩ := List.mem_map.mp he'
    obtain ⟨j, hj, rfl⟩ := List.mem_iff_getElem.mp hr'
    by_cases e : j = i
    · subst e
      rcases hik with hik | hb
      · have hkm : R.getD k [] ∈ R.set j row := by
          rw [List.mem_iff_getElem?]
          refine ⟨k, ?_⟩
          rw [List.getElem?_set_ne (Ne.symm hik), List.getD_eq_getElem?_getD, List.getElem?_eq_getElem hk]
          rfl
        refine Spn.lin a' (-(a' * b)) (Spn.mem (List.mem_map.mpr ⟨row, hrow, rfl⟩)) (Spn.mem (List.mem_map.mpr ⟨_, hkm, rfl⟩)) fun q => ?_
        have hq := he q
        have e1 : a2 R j q = fn R[j] q := by unfold a2 fn; rw [List.getD_eq_getElem?_getD (l := R), List.getElem?_eq_getElem hj]; rfl
        have e2 : a2 R k q = fn (R.getD k []) q := rfl
        rw [e1, e2] at hq
        obtain ⟨m, hm⟩ := hq
        obtain ⟨l, hl⟩ := ha
        exact ⟨-(l * fn R[j] q) - a' * m, by grind⟩
      · refine Spn.smul a' (Spn.mem (List.mem_map.mpr ⟨row, hrow, rfl⟩)) fun q => ?_
        have hq := he q
        have e1 : a2 R j q = fn R[j] q := by unfold a2 fn; rw [List.getD_eq_getElem?_getD (l := R), List.getElem?_eq_getElem hj]; rfl
        rw [e1, hb] at hq
        obtain ⟨m, hm⟩ := hq
        obtain ⟨l, hl⟩ := ha
        exact ⟨-(l * fn R[j] q) - a' * m, by grind⟩
    · refine Spn.mem (List.mem_map.mpr ⟨R[j], ?_, rfl⟩)
      rw [List.mem_iff_getElem?]
      exact ⟨j, by rw [List.getElem?_set_ne (Ne.symm e), List.getElem?_eq_getElem hj]⟩
/-- the same rows in another order -/
theorem Eqv.perm {p : Int} {W : Nat} {R0 R R' : List (List Int)} (h : Eqv p W R0 R) (hl : R'.length = R.length) (hm : ∀ row, row ∈ R' ↔ row ∈ R) : Eqv p W R0 R' where
  len := hl.trans h.len
  wid := fun r hr => h.wid r ((hm r).mp hr)
  red := fun r hr => h.red r ((hm r).mp hr)
  sp1 := fun r hr => h.sp1 r ((hm r).mp hr)
  sp2 := fun r hr => (h.sp2 r hr).trans fun e he => by
    obtain ⟨r', hr', rfl⟩ := List.mem_map.mp he
    exact Spn.mem (List.mem_map.mpr ⟨r', (hm r').mpr hr', rfl⟩)
/-- two rows changed for one another -/
def swp (R : List (List Int)) (i k : Nat) : List (List Int) := (R.set i (R.getD k [])).set k (R.getD i [])
theorem swp_len (R : List (List Int)) (i k : Nat) : (swp R i k).length = R.length := by simp [swp]
theorem getD_set {R : List (List Int)} {i j : Nat} {row : List Int} (hi : i < R.length) : (R.set i row).getD j [] = if j = i then row else R.getD j [] := by
  rw [List.getD_eq_getElem?_getD, List.getD_eq_getElem?_getD, List.getElem?_set]
  by_cases e : i = j
  · subst e; simp [hi]
  · rw [if_neg e, if_neg (fun z => e z.symm)]
theorem swp_getD {R : List (List Int)} {i k : Nat} (hi : i < R.length) (hk : k < R.length) (j : Nat) : (swp R i k).getD j [] = R.getD (if j = k then i else if j = i then k else j) [] := by
  unfold swp
  rw [getD_set (by rw [List.length_set]; exact hk), getD_set hi]
  by_cases e : j = k
  · rw [if_pos e, if_pos e]
  · rw [if_neg e, if_neg e]
    by_cases e2 : j = i
    · rw [if_pos e2, if_pos e2]
    · rw [if_neg e2, if_neg e2]
theorem mem_iff_getD {R : List (List Int)} {row : List Int} : row ∈ R ↔ ∃ j, j < R.length ∧ R.getD j [] = row := by
  rw [List.mem_iff_getElem]
  constructor
  · rintro ⟨j, hj, e⟩
    exact ⟨j, hj, by rw [List.getD_eq_getElem?_getD, List.getElem?_eq_getElem hj]; exact e⟩
  · rintro ⟨j, hj, e⟩
    exact ⟨j, hj, by rw [List.getD_eq_getElem?_getD, List.getElem?_eq_getElem hj] at e; exact e⟩
theorem Eqv.swap {p : Int} {W : Nat} {R0 R : List (List Int)} (h : Eqv p W R0 R) {i k : Nat} (hi : i < R.length) (hk : k < R.length) : Eqv p W R0 (swp R i k) := by
  refine h.perm (swp_len R i k) fun row => ?_
  rw [mem_iff_getD, mem_iff_getD, swp_len]
  constructor
  · rintro ⟨j, hj, e⟩
    rw [swp_getD hi hk] at e
    refine ⟨_, ?_, e⟩
    split
    · exact hi
    · split
      · exact hk
      · exact hj
  · rintro ⟨j, hj, e⟩
    refine ⟨if j = k then i else if j = i then k else j, ?_, ?_⟩
    · split
      · exact hi
      · split
        · exact hk
        · exact hj
    · rw [swp_getD hi hk, ← e]
      congr 1
      by_cases e1 : j = k
      · subst e1
        rw [if_pos rfl]
        by_cases e2 : i = j
        · rw [if_pos e2]; exact e2
        · rw [if_neg e2, if_pos rfl]
      · rw [if_neg e1]
        by_cases e2 : j = i
        · subst e2
          rw [if_pos rfl, if_pos rfl]
        · rw [if_neg e2, if_neg e1, if_neg e2]
end K96

/-! Plain: one column cleared; the rank at the end. -/
namespace K96
/-- after the columns below c: the pivots' columns are unit columns, the rows behind them are zero there -/
structure Red (p : Int) (W : Nat) (R0 R : List (List Int)) (cols : List Nat) (c : Nat) : Prop where
  eqv : Eqv p W R0 R
  le : cols.length ≤ R.length
  lt : ∀ q ∈ cols, q < c
  piv : ∀ i, i < cols.length → ∀ j, j < R.length → a2 R j (cols.getD i 0) = if j = i then 1 else 0
  zer : ∀ j, cols.length ≤ j → j < R.length → ∀ b, b < c → a2 R j b = 0
theorem Red.start {p : Int} {W : Nat} {R0 R : List (List Int)} (h : Eqv p W R0 R) : Red p W R0 R [] 0 :=
  ⟨h, Nat.zero_le _, fun _ z => (nomatch z), fun _ z => absurd z (Nat.not_lt_zero _), fun _ _ _ _ z => absurd z (Nat.not_lt_zero _)⟩
theorem Red.skip {p : Int} {W : Nat} {R0 R : List (List Int)} {cols : List Nat} {c : Nat} (h : Red p W R0 R cols c) (hz : ∀ j, cols.length ≤ j → j < R.length → a2 R j c = 0) : Red p W R0 R cols (c + 1) :=
  ⟨h.eqv, h.le, fun q hq => Nat.lt_succ_of_lt (h.lt q hq), h.piv, fun j h1 h2 b hb => by
    by_cases e : b = c
    · rw [e]; exact hz j h1 h2
    · exact h.zer j h1 h2 b (by omega)⟩
theorem a2_set {R : List (List Int)} {i j b : Nat} {row : List Int} (hi : i < R.length) : a2 (R.set i row) j b = if j = i then row.getD b 0 else a2 R j b := by
  unfold a2
  rw [getD_set hi]
  split <;> rfl
theorem a2_swp {R : List (List Int)} {i k : Nat} (hi : i < R.length) (hk : k < R.length) (j b : Nat) : a2 (swp R i k) j b = a2 R (if j = k then i else if j = i then k else j) b := by
  unfold a2
  rw [swp_getD hi hk]
theorem zip_getD {f : Int → Int → Int} (h0 : f 0 0 = 0) : ∀ {r q : List Int}, r.length = q.length → ∀ b : Nat, (List.zipWith f r q).getD b 0 = f (r.getD b 0) (q.getD b 0)
  | [], [], _, b => by simp [h0]
  | x :: r, y :: q, h, 0 => by simp
  | x :: r, y :: q, h, b + 1 => by
    have := zip_getD (f := f) h0 (r := r) (q := q) (by simpa using h) b
    simpa using this
/-- the scaled pivot's row -/
def scl (p t : Int) (row : List Int) : List Int := row.map fun x => x * t % p
/-- row i cleared at column c by row a -/
def clr (p : Int) (a c : Nat) (S : List (List Int)) (i : Nat) : List (List Int) :=
  if i ≠ a ∧ a2 S i c ≠ 0 then S.set i (List.zipWith (fun o q => (o - a2 S i c * q) % p) (S.getD i []) (S.getD a [])) else S
def clrs (p : Int) (a c : Nat) (S : List (List Int)) : Nat → List (List Int)
  | 0 => S
  | i + 1 => clr p a c (clrs p a c S i) i
theorem clr_len (p : Int) (a c : Nat) (S : List (List Int)) (i : Nat) : (clr p a c S i).length = S.length := by
  unfold clr
  split <;> simp
theorem clrs_len (p : Int) (a c : Nat) (S : List (List Int)) (i : Nat) : (clrs p a c S i).length = S.length := by
  induction i with
  | zero => rfl
  | succ i ih => rw [clrs, clr_len, ih]
theorem emod_bd {p : Int} (hp : Pr p) (x : Int) : 0 ≤ x % p ∧ x % p < p := by
  have := hp.pos
  exact ⟨Int.emod_nonneg x (by omega), Int.emod_lt_of_pos x (by omega)⟩
theorem Eqv.a2_red {p : Int} (hp : Pr p) {W : Nat} {R0 R : List (List Int)} (h : Eqv p W R0 R) (j b : Nat) : 0 ≤ a2 R j b ∧ a2 R j b < p := by
  have h2 := hp.pos
  unfold a2
  by_cases hj : j < R.length
  · by_cases hb : b < (R.getD j []).length
    · refine h.red _ (mem_getD hj) _ ?_
      rw [List.getD_eq_getElem?_getD (l := R.getD j []), List.getElem?_eq_getElem hb]
      exact List.getElem_mem hb
    · rw [List.getD_eq_getElem?_getD (l := R.getD j []), List.getElem?_eq_none (by omega)]
      exact ⟨Int.le_refl _, by show (0 : Int) < p; omega⟩
  · rw [List.getD_eq_getElem?_getD (l := R), List.getElem?_eq_none (by omega)]
    exact ⟨by simp, by simp; omega⟩
theorem Eqv.wid' {p : Int} {W : Nat} {R0 R : List (List Int)} (h : Eqv p W R0 R) {j : Nat} (hj : j < R.length) : (R.getD j []).length = W := h.wid _ (mem_getD hj)
theorem Eqv.clr {p : Int} (hp : Pr p) {W : Nat} {R0 S : List (List Int)} (h : Eqv p W R0 S) {a c i : Nat} (ha : a < S.length) (hi : i < S.length) : Eqv p W R0 (clr p a c S i) := by
  unfold K96.clr
  by_cases hc : i ≠ a ∧ a2 S i c ≠ 0
  · rw [if_pos hc]
    have hl : (S.getD i []).length = (S.getD a []).length := by rw [h.wid' hi, h.wid' ha]
    refine h.set (a := 1) (a' := 1) (b := -(a2 S i c)) hi ha (.inl (Ne.symm hc.1)) ⟨0, by omega⟩ ?_ (fun e he => ?_) fun j => ?_
    · rw [List.length_zipWith, ← hl, Nat.min_self, h.wid' hi]
    · rw [List.mem_iff_getElem] at he
      obtain ⟨n, hn, rfl⟩ := he
      rw [List.getElem_zipWith]
      exact emod_bd hp _
    · show p ∣ (List.zipWith _ _ _).getD j 0 - _ - _
      rw [zip_getD (f := fun o q => (o - a2 S i c * q) % p) (by simp) hl]
      obtain ⟨k, hk⟩ := dvd_mod_sub p ((S.getD i []).getD j 0 - a2 S i c * (S.getD a []).getD j 0)
      refine ⟨k, ?_⟩
      show _ - 1 * (S.getD i []).getD j 0 - _ * (S.getD a []).getD j 0 = _
      grind
  · rw [if_neg hc]; exact h
theorem clr_a2 {p : Int} (hp : Pr p) {W : Nat} {R0 S : List (List Int)} (h : Eqv p W R0 S) {a c i : Nat} (ha : a < S.length) (hi : i < S.length) (j b : Nat) :
    a2 (clr p a c S i) j b = if j = i ∧ j ≠ a then (a2 S j b - a2 S j c * a2 S a b) % p else a2 S j b := by
  unfold K96.clr
  have hl : (S.getD i []).length = (S.getD a []).length := by rw [h.wid' hi, h.wid' ha]
  by_cases hia : i = a
  · rw [if_neg (fun z => z.1 hia), if_neg (fun z => z.2 (z.1.trans hia))]
  · by_cases hm : a2 S i c = 0
    · rw [if_neg (fun z => z.2 hm)]
      by_cases hji : j = i ∧ j ≠ a
      · rw [if_pos hji, hji.1, hm]
        have := h.a2_red hp i b
        rw [Int.zero_mul, Int.sub_zero, Int.emod_eq_of_lt this.1 this.2]
      · rw [if_neg hji]
    · rw [if_pos ⟨hia, hm⟩, a2_set hi]
      by_cases hji : j = i
      · subst hji
        rw [if_pos rfl, if_pos ⟨rfl, hia⟩, zip_getD (f := fun o q => (o - a2 S j c * q) % p) (by simp) hl]
        rfl
      · rw [if_neg hji, if_neg (fun z => hji z.1)]
theorem clrs_all {p : Int} (hp : Pr p) {W : Nat} {R0 S : List (List Int)} (h : Eqv p W R0 S) {a c : Nat} (ha : a < S.length) : ∀ i, i ≤ S.length → Eqv p W R0 (clrs p a c S i) ∧ ∀ j b, a2 (clrs p a c S i) j b = if j < i ∧ j ≠ a then (a2 S j b - a2 S j c * a2 S a b) % p else a2 S j b
  | 0, _ => ⟨h, fun j b => by rw [if_neg (fun z => absurd z.1 (Nat.not_lt_zero _))]; rfl⟩
  | i + 1, hi => by
    obtain ⟨h1, h2⟩ := clrs_all hp h (c := c) ha i (by omega)
    have hl := clrs_len p a c S i
    refine ⟨h1.clr hp (by omega) (by omega), fun j b => ?_⟩
    rw [clrs, clr_a2 hp h1 (by omega) (by omega)]
    by_cases hji : j = i
    · subst hji
      by_cases hja : j = a
      · rw [if_neg (fun z => z.2 hja), if_neg (fun z => z.2 hja), h2, if_neg (fun z => z.2 hja)]
      · rw [if_pos ⟨rfl, hja⟩, if_pos ⟨Nat.lt_succ_self _, hja⟩, h2, h2, h2, if_neg (fun z => Nat.lt_irrefl _ z.1), if_neg (fun z => Nat.lt_irrefl _ z.1), if_neg (fun z => z.2 rfl)]
    · rw [if_neg (fun z => hji z.1), h2]
      by_cases hlt : j < i ∧ j ≠ a
      · rw [if_pos hlt, if_pos ⟨by omega, hlt.2⟩]
      · rw [if_neg hlt, if_neg (fun z => hlt ⟨by omega, z.2⟩)]
/-- the pivot's row taken up and scaled -/
def prep (p t : Int) (a k : Nat) (R : List (List Int)) : List (List Int) := (swp R a k).set a (scl p t ((swp R a k).getD a []))
theorem prep_len (p t : Int) (a k : Nat) (R : List (List Int)) : (prep p t a k R).length = R.length := by simp [prep, swp_len]
theorem Red.pivot {p : Int} (hp : Pr p) {W : Nat} {R0 R : List (List Int)} {cols : List Nat} {c k : Nat} {t : Int} (h : Red p W R0 R cols c) (hk1 : cols.length ≤ k) (hk2 : k < R.length) (ht : t * a2 R k c % p = 1) :
    Red p W R0 (clrs p cols.length c (prep p t cols.length k R) R.length) (cols ++ [c]) (c + 1) := by
  have hp2 := hp.pos
  have ha : cols.length < R.length := by omega
  generalize hA : cols.length = A at *
  have e1 : Eqv p W R0 (swp R A k) := h.eqv.swap ha hk2
  have hl1 := swp_len R A k
  have hpl := prep_len p t A k R
  have b1 := a2_swp ha hk2
  have hscl : ∀ j, (scl p t ((swp R A k).getD A [])).getD j 0 = a2 (swp R A k) A j * t % p := fun j => by
    unfold scl a2
    rw [List.getD_eq_getElem?_getD (l := List.map _ _), List.getElem?_map, List.getD_eq_getElem?_getD (i := j)]
    cases ((swp R A k).getD A [])[j]? with
    | none => simp
    | some x => rfl
  have e2 : Eqv p W R0 (prep p t A k R) := by
    obtain ⟨l, hl⟩ : p ∣ t * a2 R k c - 1 := by
      refine ⟨t * a2 R k c / p, ?_⟩
      have := Int.mul_ediv_add_emod (t * a2 R k c) p
      omega
    refine e1.set (a := t) (a' := a2 R k c) (b := 0) (k := A) (by omega) (by omega) (.inr rfl) ⟨l, hl⟩ ?_ (fun e he => ?_) fun j => ?_
    · unfold scl
      rw [List.length_map]
      exact e1.wid' (by omega)
    · obtain ⟨x, _, rfl⟩ := List.mem_map.mp he
      exact emod_bd hp _
    · show p ∣ (scl p t ((swp R A k).getD A [])).getD j 0 - _ - _
      rw [hscl]
      obtain ⟨m, hm⟩ := dvd_mod_sub p (a2 (swp R A k) A j * t)
      exact ⟨m, by grind⟩
  have b2 : ∀ j b, a2 (prep p t A k R) j b = if j = A then a2 R k b * t % p else a2 (swp R A k) j b := fun j b => by
    unfold prep
    rw [a2_set (by omega), hscl, b1 A]
    by_cases e : A = k
    · subst e; simp
    · rw [if_neg e, if_pos rfl]
  obtain ⟨e3, b3⟩ := clrs_all hp e2 (c := c) (a := A) (by omega) R.length (by omega)
  have hl3 := clrs_len p A c (prep p t A k R) R.length
  -- the rows behind are zero below c
  have z1 : ∀ j, A ≤ j → j < R.length → ∀ b, b < c → a2 (swp R A k) j b = 0 := fun j h1 h2 b hb => by
    rw [b1]
    refine h.zer _ ?_ ?_ b hb
    · rw [hA]; split
      · exact Nat.le_refl _
      · split <;> omega
    · split
      · exact ha
      · split <;> omega
  have zA : ∀ b, b < c → a2 R k b = 0 := fun b hb => h.zer k (by omega) hk2 b hb
  -- the final entries
  have fin : ∀ j, j < R.length → ∀ b, a2 (clrs p A c (prep p t A k R) R.length) j b = if j = A then a2 R k b * t % p else (a2 (swp R A k) j b - a2 (swp R A k) j c * (a2 R k b * t % p)) % p := fun j hj b => by
    rw [b3, b2, b2, b2]
    by_cases e : j = A
    · rw [if_neg (fun z => z.2 e), if_pos e, if_pos e]
    · rw [if_pos ⟨hj, e⟩, if_neg e, if_neg e, if_neg e, if_pos rfl]
  have one : a2 R k c * t % p = 1 := by rw [Int.mul_comm]; exact ht
  refine ⟨e3, ?_, fun q hq => ?_, fun i hi j hj => ?_, fun j h1 h2 b hb => ?_⟩
  · rw [List.length_append, hl3, hpl, hA]; simp; omega
  · rcases List.mem_append.mp hq with z | z
    · exact Nat.lt_succ_of_lt (h.lt q z)
    · rw [List.mem_singleton.mp z]; exact Nat.lt_succ_self _
  · rw [hl3, hpl] at hj
    rw [List.length_append, hA] at hi
    simp at hi
    rw [fin j hj]
    by_cases hiA : i < A
    · have hq : (cols ++ [c]).getD i 0 = cols.getD i 0 := by
        rw [List.getD_eq_getElem?_getD, List.getElem?_append_left (by omega), ← List.getD_eq_getElem?_getD]
      rw [hq]
      have hqc : cols.getD i 0 < c := by
        refine h.lt _ ?_
        rw [List.getD_eq_getElem?_getD, List.getElem?_eq_getElem (by omega)]
        exact List.getElem_mem _
      rw [zA _ hqc]
      by_cases e : j = A
      · rw [if_pos e, if_neg (by omega)]; simp
      · rw [if_neg e]
        have e4 : a2 (swp R A k) j (cols.getD i 0) = if j = i then 1 else 0 := by
          by_cases hjA : A ≤ j
          · rw [z1 j hjA hj _ hqc, if_neg (by omega)]
          · rw [b1, if_neg (by omega), if_neg (by omega)]
            exact h.piv i (by omega) j hj
        rw [e4]
        split
        · simp
          exact Int.emod_eq_of_lt (by omega) (by omega)
        · simp
    · obtain rfl : i = A := by omega
      have hq : (cols ++ [c]).getD i 0 = c := by
        rw [List.getD_eq_getElem?_getD, List.getElem?_append_right (by omega), hA]
        simp
      rw [hq, one]
      by_cases e : j = i
      · rw [if_pos e, if_pos e]
      · rw [if_neg e, if_neg e]; simp
  · rw [hl3, hpl] at h2
    rw [List.length_append, hA] at h1
    simp at h1
    rw [fin j h2, if_neg (by omega)]
    by_cases e : b = c
    · rw [e, one]; simp
    · rw [z1 j (by omega) h2 b (by omega), zA b (by omega)]; simp
/-- what the elimination tells of the rank -/
def RankW (p : Int) (W : Nat) (R0 : List (List Int)) (r : Nat) : Prop := ∃ T : List ((Nat → Int) × Nat), T.length = r ∧ (∀ t ∈ T, Spn p (R0.map fn) t.1) ∧ (∀ t ∈ T, ¬ p ∣ t.1 t.2) ∧ T.Pairwise (fun a b => p ∣ b.1 a.2) ∧
  (∀ v ∈ R0.map fn, Spn p (T.map (·.1)) v) ∧ ∀ t ∈ T, t.2 < W
theorem Red.rank {p : Int} (hp : Pr p) {W : Nat} {R0 R : List (List Int)} {cols : List Nat} (h : Red p W R0 R cols W) : RankW p W R0 cols.length := by
  refine ⟨(List.range cols.length).map fun i => (fn (R.getD i []), cols.getD i 0), by simp, fun t ht => ?_, fun t ht => ?_, ?_, fun v hv => ?_, fun t ht => ?_⟩
  · obtain ⟨i, hi, rfl⟩ := List.mem_map.mp ht
    have := List.mem_range.mp hi
    exact h.eqv.sp1 _ (mem_getD (by have := h.le; omega))
  · obtain ⟨i, hi, rfl⟩ := List.mem_map.mp ht
    have hi := List.mem_range.mp hi
    have := h.piv i hi i (by have := h.le; omega)
    show ¬ p ∣ a2 R i (cols.getD i 0)
    rw [this, if_pos rfl]
    exact hp.not_one
  · refine List.pairwise_map.mpr (List.Pairwise.imp_of_mem ?_ List.pairwise_lt_range)
    intro i j hi hj hij
    have hi := List.mem_range.mp hi
    have hj := List.mem_range.mp hj
    show p ∣ a2 R j (cols.getD i 0)
    rw [h.piv i hi j (by have := h.le; omega), if_neg (by omega)]
    exact ⟨0, by simp⟩
  · obtain ⟨row, hr, rfl⟩ := List.mem_map.mp hv
    refine (h.eqv.sp2 row hr).trans fun e he => ?_
    obtain ⟨r, hr', rfl⟩ := List.mem_map.mp he
    obtain ⟨j, hj, rfl⟩ := mem_iff_getD.mp hr'
    by_cases hjl : j < cols.length
    · refine Spn.mem ?_
      rw [List.map_map]
      exact List.mem_map.mpr ⟨j, List.mem_range.mpr hjl, rfl⟩
    · refine .zero fun b => ?_
      have hz : fn (R.getD j []) b = 0 := by
        by_cases hb : b < W
        · exact h.zer j (by omega) hj b hb
        · unfold fn
          rw [List.getD_eq_getElem?_getD, List.getElem?_eq_none (by rw [h.eqv.wid' hj]; omega)]
          rfl
      rw [hz]
      exact ⟨0, by simp⟩
  · obtain ⟨i, hi, rfl⟩ := List.mem_map.mp ht
    have hi := List.mem_range.mp hi
    refine h.lt _ ?_
    show cols.getD i 0 ∈ cols
    rw [List.getD_eq_getElem?_getD, List.getElem?_eq_getElem hi]
    exact List.getElem_mem hi
end K96

/-! need_degree, need_prime, inverse_of. -/
namespace K96
open PySem PySem.Spec PyProof.Rows L2
section
variable {P : Program} {w : World} {K : PySem.W.Frag} {mg : Str → Option Value} {base : Heap} {C : Addr}

def spNeedDegree : Sp := fun vs H Q _ => ∃ k a : Int, vs = [.int k, .int a] ∧ a ≤ k ∧ k ≤ 7 ∧ Q .non H
abbrev n_need_degree : List Str := ["degree", "least"]
theorem sc_need_degree : FnScope n_need_degree ["degree", "least"] (defScope (top 36)) := ⟨rfl, rfl, rfl, by decide +kernel, rfl, by decide +kernel, by decide +kernel⟩
theorem ok_need_degree (D : Def K mg "need_degree" (top 36)) (c1 : Cal P w K mg base "is_in" 2 ["value", "least", "most"] spIsIn) : Cal P w K mg base "need_degree" 3 ["degree", "least"] spNeedDegree := by
  obtain ⟨f1, fd1, G_is_in, g_is_in, k_is_in, b_is_in⟩ := c1.ex
  refine D.ok sc_need_degree (fun vs H Q E h => ?_) (fun _ _ _ _ _ _ us hl => match us, hl with | [_, _], _ => rfl) (fun f cdv A outer s H vs Q E hr h => ?_)
  · obtain ⟨k, a, rfl, _⟩ := h
    rfl
  · obtain ⟨k, a, rfl, h1, h2, q⟩ := h
    refine ⟨_, pss_one (ps_if (pt_not (pt_val (pe_call G_is_in hr (by rfl) g_is_in k_is_in b_is_in .nil pass0 (pa_cons (pv 0) (pa_cons (pv 1) (pa_cons pe_int pa_nil)))))) (pss_one ps_never) pss_nil), ?_⟩
    refine ⟨_, rfl, _, rfl, k, a, 7, rfl, _, rfl, ?_⟩
    exact ifF (by rw [decide_eq_true h1, decide_eq_true h2]; rfl) q

def PrF (K : PySem.W.Frag) (mg : Str → Option Value) : Prop := ∃ PR, mg "PRIMES" = some (.ref PR) ∧ ∀ H, SqT K H PR [.int 2, .int 3, .int 5, .int 7]
def spNeedPrime : Sp := fun vs H Q _ => ∃ p : Int, vs = [.int p] ∧ Pr p ∧ Q .non H
abbrev n_need_prime : List Str := ["prime"]
theorem sc_need_prime : FnScope n_need_prime ["prime"] (defScope (top 39)) := ⟨rfl, rfl, rfl, by decide +kernel, rfl, by decide +kernel, by decide +kernel⟩
theorem ok_need_prime (D : Def K mg "need_prime" (top 39)) (gP : PrF K mg) (c1 : Cal P w K mg base "is_integer" 1 ["value"] spIsInteger) : Cal P w K mg base "need_prime" 2 ["prime"] spNeedPrime := by
  obtain ⟨f1, fd1, G_is_integer, g_is_integer, k_is_integer, b_is_integer⟩ := c1.ex
  obtain ⟨PR, gP, hPR⟩ := gP
  refine D.ok sc_need_prime (fun vs H Q E h => ?_) (fun _ _ _ _ _ _ us hl => match us, hl with | [_], _ => rfl) (fun f cdv A outer s H vs Q E hr h => ?_)
  · obtain ⟨p, rfl, _⟩ := h
    rfl
  · obtain ⟨p, rfl, hp, q⟩ := h
    refine ⟨_, pss_one (ps_if (PW.pt (pw_or (pt_not (pt_val (pe_call G_is_integer hr (by rfl) g_is_integer k_is_integer b_is_integer .nil pass0 (pa_cons (pv 0) pa_nil)))) (pw_or1 (pt_cmpR op_notIn_seq (pv 0) (pe_glob (v := .ref PR) (by rfl) gP rfl) rfl)))) (pss_one ps_never) pss_nil), ?_⟩
    refine ⟨_, rfl, p, rfl, _, rfl, ?_⟩
    refine iteF ⟨_, rfl, PR, _, rfl, .inr (hPR H), rfl, rfl, _, rfl, ?_⟩
    refine ifF ?_ q
    rcases hp with rfl | rfl | rfl | rfl <;> decide

def spInverseOf : Sp := fun vs H Q _ => ∃ a p : Int, vs = [.int a, .int p] ∧ Pr p ∧ 0 < a ∧ a < p ∧ ∀ H' b, Same H H' → b * a % p = 1 → 0 ≤ b → b < p → Q (.int b) H'
abbrev n_inverse_of : List Str := ["number", "prime", "other"]
theorem sc_inverse_of : FnScope n_inverse_of ["number", "prime"] (defScope (top 40)) := ⟨rfl, rfl, rfl, by decide +kernel, rfl, by decide +kernel, by decide +kernel⟩
theorem Pr.le {p : Int} (h : Pr p) : p ≤ 7 := by rcases h with h | h | h | h <;> omega
theorem inv_ex {p : Int} (hp : Pr p) {a : Int} (h0 : 0 < a) (h1 : a < p) : ∃ k : Nat, k < (p - 1).toNat ∧ (1 + (k : Int)) * a % p = 1 := by
  have hp2 := hp.pos
  obtain ⟨y, hy⟩ := hp.inv (x := a) (fun z => by have := Int.le_of_dvd h0 z; omega)
  have hr := emod_bd hp y
  have e1 : y % p * a % p = 1 := by
    obtain ⟨m, hm⟩ := dvd_mod_sub p y
    obtain ⟨l, hl⟩ := hy
    have e : y % p * a = 1 + p * (m * a + l) := by grind
    rw [e, Int.add_mul_emod_self_left]
    exact Int.emod_eq_of_lt (by omega) (by omega)
  have hne : y % p ≠ 0 := by
    intro z
    rw [z] at e1
    simp at e1
  refine ⟨(y % p - 1).toNat, by omega, ?_⟩
  rw [show (1 + (((y % p - 1).toNat : Nat) : Int)) = y % p by omega]
  exact e1
theorem ok_inverse_of (N : Nm mg) (D : Def K mg "inverse_of" (top 40)) : Cal P w K mg base "inverse_of" 1 ["number", "prime"] spInverseOf := by
  refine D.ok sc_inverse_of (fun vs H Q E h => ?_) (fun _ _ _ _ _ _ us hl => match us, hl with | [_, _], _ => rfl) (fun f cdv A outer s H vs Q E hr h => ?_)
  · obtain ⟨a, p, rfl, _⟩ := h
    rfl
  · obtain ⟨a, p, rfl, hp, h0, h1, q⟩ := h
    have hp2 := hp.pos
    have hp7 := hp.le
    refine ⟨_, pss_one (ps_ret (pe_ix ix_list (pe_lc (own := [("other", 2)]) (g := gName 2) rfl sc_inverse_of.nd (pi_range2 (by rfl) N.range (pa_cons pe_int (pa_cons (pv 1) pa_nil))) (blkOk_by (N := n_inverse_of) (sc := defScope (top 40)) (by decide +kernel)) (fun _ _ _ _ _ => (pg_name (i := 2) sc_inverse_of.nd rfl (Or.inl rfl))) (fun _ _ _ _ _ => (pts_one (pt_cmpR op_eq (pe_op op_mod (pe_op op_mul (pv 2) (pv 0)) (pv 1)) pe_int (nomark _)))) (fun _ _ _ _ _ => by exact (pv 2))) pe_int (fun _ _ => rfl))), ?_⟩
    refine ⟨_, rfl, 1, p, rfl, ⟨by omega, by omega, by omega, by omega⟩, fun D1 hD1 => ?_⟩
    refine lc_it walk_range (GP H D1 (fun i acc _ => acc = (((List.range i).filter fun k : Nat => decide ((1 + (k : Int)) * a % p = 1)).map fun k : Nat => V.int (1 + (k : Int))))) (gp_start hD1 rfl) (fun _ _ _ _ => trivial) ?_ ?_
    · rintro i v _ H2 hi ⟨s2, acc, hD2, racc⟩ ⟨rfl, rfl⟩
      have hla : acc.length ≤ 7 := by
        rw [racc, List.length_map]
        refine Nat.le_trans (List.length_filter_le ..) ?_
        rw [List.length_range]
        omega
      refine ⟨rfl, _, rfl, _, rfl, _, _, rfl, rfl, .inr ⟨by omega, by omega⟩, _, rfl, _, _, rfl, rfl, (by show (0 : Int) < p; omega), rfl, _, rfl, ?_⟩
      by_cases hc : (1 + (i : Int)) * a % p = 1
      · refine ifT (decide_eq_true (congrArg V.int hc)) ⟨_, rfl, gp_grow off_pure hD1 s2 hD2 (Same.refl _) (small_line (by omega)) ?_⟩
        rw [racc, List.range_succ, List.filter_append, List.map_append]
        simp [hc]
      · refine ifF (decide_eq_false (fun z => hc (V.int.inj z))) (gp_skip s2 hD2 (Same.refl _) ?_)
        rw [racc, List.range_succ, List.filter_append]
        simp [hc]
    · rintro H2 ⟨s2, acc, hD2, racc⟩
      obtain ⟨k, hk, hk1⟩ := inv_ex hp h0 h1
      have hm : k ∈ (List.range (p - 1).toNat).filter fun k : Nat => decide ((1 + (k : Int)) * a % p = 1) := List.mem_filter.mpr ⟨List.mem_range.mpr hk, decide_eq_true hk1⟩
      have hall : ∀ j ∈ (List.range (p - 1).toNat).filter fun k : Nat => decide ((1 + (k : Int)) * a % p = 1), j < (p - 1).toNat ∧ (1 + (j : Int)) * a % p = 1 := fun j hj => by
        obtain ⟨h3, h4⟩ := List.mem_filter.mp hj
        exact ⟨List.mem_range.mp h3, of_decide_eq_true h4⟩
      generalize (List.range (p - 1).toNat).filter (fun k : Nat => decide ((1 + (k : Int)) * a % p = 1)) = L at racc hm hall
      cases L with
      | nil => cases hm
      | cons j r =>
        have hj := hall j List.mem_cons_self
        refine ⟨D1, acc, ((0 : Nat) : Int), .int (1 + (j : Int)), rfl, rfl, SqL.of hD2, atI_nat (by rw [racc]; rfl), ?_⟩
        exact q H2 _ s2 hj.2 (by omega) (by omega)
end
end K96

/-! reduced, rank_in. -/
namespace K96
open PySem PySem.Spec PyProof.Rows L2
theorem lookup_mapk {h : Str → NameKind → NameKind} (x : Str) : ∀ names : List (Str × NameKind), (names.map fun p => (p.1, h p.1 p.2)).lookup x = (names.lookup x).map (h x)
  | [] => rfl
  | (n, k) :: r => by
    rw [List.map_cons, List.lookup_cons, List.lookup_cons, lookup_mapk x r]
    by_cases e : (x == n) = true
    · rw [e]
      have := eq_of_beq e
      subst this
      rfl
    · rw [Bool.not_eq_true] at e
      rw [e]
/-- a comprehension within one -/
theorem blkOk_in {X : Cx} {s : Shared} {H : Hp} {scope scope2 : Scope} {cl : List (Str × Addr)} {A : Addr} {env : Env} {fp : List Addr} {own : List (Str × Nat)} {N : List Str} (hN : X.N = N) (h : blkC N scope scope2 own = true) :
    BlkOk (X.blk s H scope (compEnvC scope cl A env) fp).N (X.blk s H scope (compEnvC scope cl A env) fp).env.scope scope2 own := by
  have e : BlkOk N scope scope2 own := blkOk_by h
  subst hN
  refine ⟨e.kind, e.uniq, e.ix, fun y hy z => ?_, e.own⟩
  have q := e.free y hy z
  have ef : (relabel scope env).names = scope.names.map fun p => (p.1, if (p.2 == .free && env.scope.kind == .function && env.kindOf p.1 == some .cell) then NameKind.cell else p.2) := by
    show scope.names.map _ = scope.names.map _
    refine List.map_congr_left fun p _ => ?_
    obtain ⟨n, k⟩ := p
    dsimp only
    split <;> rfl
  show (relabel scope env).names.lookup y.1 = some .cell ∨ (relabel scope env).names.lookup y.1 = some .free
  rw [ef, lookup_mapk (h := fun n k => if (k == .free && env.scope.kind == .function && env.kindOf n == some .cell) then NameKind.cell else k)]
  rcases q with q | q
  · rw [q]
    left
    rfl
  · rw [q]
    show some _ = some _ ∨ some _ = some _
    dsimp only
    split
    · exact .inl rfl
    · exact .inr rfl
theorem ite_go {b : Bool} {ta : TE} {z W : Int} {σ : L2.St} {H : Hp} {Q : VK} (hA : b = true → ∀ Q' : VK, Q' (.int W) H → ta σ H Q') (hB : b = false → W = z) (q : Q (.int W) H) : if b = true then ta σ H Q else tC (.int z) σ H Q := by
  cases b with
  | true => exact iteT (hA rfl Q q)
  | false =>
    refine iteF ?_
    rw [hB rfl] at q
    exact q
theorem paired_set {α β : Type} {R : α → β → Prop} {xs : List α} {ys : List β} (h : Paired R xs ys) (i : Nat) {x : α} {y : β} (r : R x y) : Paired R (xs.set i x) (ys.set i y) := by
  induction h generalizing i with
  | nil => exact .nil
  | @cons a b xs ys h t ih =>
    cases i with
    | zero => exact .cons r t
    | succ i => exact .cons h (ih i)
theorem Rws.at' {H : Hp} {xs : List V} {R : List (List Int)} (h : Rws H xs R) {j : Nat} (hj : j < R.length) : ∃ q, xs[j]? = some (.ref q) ∧ H q = some (.lst ((R.getD j []).map V.int)) := by
  have hl := Paired.length h
  obtain ⟨row, hr, q, e, hq⟩ := paired_get h (List.getElem?_eq_getElem (show j < xs.length by omega))
  refine ⟨q, by rw [List.getElem?_eq_getElem (by omega), e], ?_⟩
  rw [List.getD_eq_getElem?_getD, hr]
  exact hq
theorem row_at {row : List Int} {c : Nat} (h : c < row.length) : (row.map V.int)[c]? = some (.int (row.getD c 0)) := by
  rw [List.getElem?_map, List.getD_eq_getElem?_getD, List.getElem?_eq_getElem h]
  rfl
theorem dpAll_rws {K : PySem.W.Frag} {H : Hp} {xs : List V} {R : List (List Int)} (h : Rws H xs R) : DpAll K H xs (R.map fun row => PyData.list (row.map .int)) := by
  induction h with
  | nil => exact .nil
  | cons h t ih =>
    obtain ⟨a, rfl, ha⟩ := h
    exact .cons (.lst (SqL.of ha) (dpAll_ints _)) ih
theorem rows_lay : ∀ l : List (List Int), PyData.canLayAll0 (l.map fun row => PyData.list (row.map .int)) = true
  | [] => by simp [PyData.canLayAll0]
  | a :: r => by simp [PyData.canLayAll0, PyData.canLay0, ints_lay a, rows_lay r]
theorem rows_depth : ∀ l : List (List Int), PyData.depthAll (l.map fun row => PyData.list (row.map .int)) ≤ 2
  | [] => by simp [PyData.depthAll]
  | a :: r => by
    have h1 := rows_depth r
    have h2 := ints_depth a
    simp [PyData.depthAll, PyData.depth]
    omega
theorem rows_shaped (l : List (List Int)) : SeqAt.shaped (.list (l.map fun row => PyData.list (row.map .int))) = true := by
  have h1 := rows_depth l
  have h2 : PyData.depth (.list (l.map fun row => PyData.list (row.map .int))) ≤ 64 := by
    simp only [PyData.depth]
    omega
  show (PyData.canLay0 (.list (l.map fun row => PyData.list (row.map .int))) && decide (PyData.depth (.list (l.map fun row => PyData.list (row.map .int))) ≤ 64)) = true
  rw [Bool.and_eq_true]
  exact ⟨by simp only [PyData.canLay0]; exact rows_lay l, decide_eq_true h2⟩
theorem intl_shaped (l : List Int) : SeqAt.shaped (.list (l.map .int)) = true := by
  have h1 := ints_depth l
  have h2 : PyData.depth (.list (l.map .int)) ≤ 64 := by
    simp only [PyData.depth]
    omega
  show (PyData.canLay0 (.list (l.map .int)) && decide (PyData.depth (.list (l.map .int)) ≤ 64)) = true
  rw [Bool.and_eq_true]
  exact ⟨by simp only [PyData.canLay0]; exact ints_lay l, decide_eq_true h2⟩
theorem ne_nil_m {K : PySem.W.Frag} {H : Hp} {Q : VK} {l e : Addr} {xs : List V} {R : List (List Int)} (hl : SqL K H l xs) (h : Rws H xs R) (he : SqL K H e []) (q : Q (.bl (!decide (R = []))) H) : rNeD K (.ref l) (.ref e) H Q := by
  refine ⟨_, _, .lst hl (dpAll_rws h), .lst he .nil, rows_shaped R, rows_shaped [], ?_⟩
  have : PyData.eqv (.list (R.map fun row => PyData.list (row.map .int))) (.list []) = decide (R = []) := by
    cases R with
    | nil => simp [PyData.eqv, PyData.eqvAll]
    | cons a r => simp [PyData.eqv, PyData.eqvAll]
  rw [this]
  exact q
theorem ne_nil_i {K : PySem.W.Frag} {H : Hp} {Q : VK} {l e : Addr} {x : List Int} (hl : SqL K H l (x.map V.int)) (he : SqL K H e []) (q : Q (.bl (!decide (x = []))) H) : rNeD K (.ref l) (.ref e) H Q := by
  refine ⟨_, _, .lst hl (dpAll_ints x), .lst he .nil, intl_shaped x, intl_shaped [], ?_⟩
  have : PyData.eqv (.list (x.map .int)) (.list []) = decide (x = []) := by
    cases x with
    | nil => simp [PyData.eqv, PyData.eqvAll]
    | cons a r => simp [PyData.eqv, PyData.eqvAll]
  rw [this]
  exact q
section
variable {P : Program} {w : World} {K : PySem.W.Frag} {mg : Str → Option Value} {base : Heap} {C : Addr}

def spReduced : Sp := fun vs H Q _ => ∃ (a : Addr) (p : Int) (W : Nat) (R0 : List (List Int)), vs = [.ref a, .int p] ∧ Pr p ∧ Mx H a R0 ∧ (∀ row ∈ R0, row.length = W) ∧ (R0 = [] → W = 0) ∧ R0.length ≤ 225 ∧ W ≤ 225 ∧
  ∀ H' t f c cs r, Same H H' → H' t = some (.tup [.ref f, .ref c]) → H' c = some (.lst cs) → cs.length = r → RankW p W R0 r → Q (.ref t) H'
abbrev n_reduced : List Str := ["rows", "prime", "found", "columns", "wide", "column", "at", "able", "turn", "row", "many", "one", "other"]
theorem sc_reduced : FnScope n_reduced ["rows", "prime"] (defScope (top 41)) := ⟨rfl, rfl, rfl, by decide +kernel, rfl, by decide +kernel, by decide +kernel⟩
theorem ok_reduced (N : Nm mg) (D : Def K mg "reduced" (top 41)) (c1 : Cal P w K mg base "inverse_of" 1 ["number", "prime"] spInverseOf) : Cal P w K mg base "reduced" 2 ["rows", "prime"] spReduced := by
  obtain ⟨f1, fd1, G_inverse_of, g_inverse_of, k_inverse_of, b_inverse_of⟩ := c1.ex
  refine D.ok sc_reduced (fun vs H Q E h => ?_) (fun _ _ _ _ _ _ us hl => match us, hl with | [_, _], _ => rfl) (fun f cdv A outer s H vs Q E hr h => ?_)
  · obtain ⟨a, p, W, R0, rfl, _⟩ := h
    rfl
  · obtain ⟨a, p, W, R0, rfl, hp, ⟨xs0, ha, rw0⟩, hw, hW0, h1, h2, q⟩ := h
    have hp2 := hp.pos
    have hp7 := hp.le
    have hu := hu_of hr
    have hr1 : Room 1 _ := hr
    have hu64 : (A.deeper (envOfC "reduced" (defScope (top 41)) s.heap.objs.size f cdv)).units + 64 < cLine := hr.units
    refine ⟨_, pss_cons (ps_asg (pe_tup (pa_cons (pe_lc (own := [("row", 9)]) (g := gName 9) (tt := tYes) rfl sc_reduced.nd (pi_list (pv 0)) (blkOk_by (N := n_reduced) (sc := defScope (top 41)) (by decide +kernel)) (fun _ _ _ _ _ => (pg_name (i := 9) sc_reduced.nd rfl (Or.inl rfl))) (fun _ _ _ _ _ => pts_nil) (fun _ _ _ _ _ => by exact (by refine pe_lc (wi := iList K (tVar 9)) (te := tOp (rI (fun _ j => 0 < j) fun i j => .int (i % j)) (tVar 11) (tVar 1)) (hs := ?h8) (own := [("one", 11)]) (g := gName 11) (tt := tYes) ?h1 ?h2 ?h3 ?h4 ?h5 ?h6 ?h7; (case h1 => rfl); (case h2 => exact sc_reduced.nd); (case h3 => exact (pi_list (pv 9))); (case h4 => exact (blkOk_in (N := n_reduced) rfl (by decide +kernel))); (case h5 => exact (fun _ _ _ _ _ => (pg_name (i := 11) sc_reduced.nd rfl (Or.inl rfl)))); (case h6 => exact (fun _ _ _ _ _ => pts_nil)); (case h7 => exact (fun _ _ _ _ _ => (pe_op op_mod (pv 11) (pv 1)))); (case h8 => intro _; rfl)))) (pa_cons (pe_lst pa_nil) pa_nil))) (pg_tup rfl (pgs_cons (pg_name (i := 2) sc_reduced.nd rfl (Or.inr rfl)) (pgs_cons (pg_name (i := 3) sc_reduced.nd rfl (Or.inl rfl)) pgs_nil))))
      (pss_cons (ps_set (i := 4) sc_reduced.nd rfl (Or.inl rfl) (pe_ifExp (pt_cmpR (op_neD hu64) (pv 2) (pe_lst pa_nil) (nomark _)) (pe_callB call_len_seq (by rfl) N.len PySem.boot_len (pa_cons (pe_ix ix_list (pv 2) pe_int (fun _ _ => rfl)) pa_nil)) pe_int))
      (pss_cons (ps_for PassesOwn.never rfl (pi_range1 (by rfl) N.range (pa_cons (pv 4) pa_nil)) (pg_name (i := 5) sc_reduced.nd rfl (Or.inr rfl))
      (pss_cons (ps_set (i := 6) sc_reduced.nd rfl (Or.inl rfl) (pe_callB call_len_seq (by rfl) N.len PySem.boot_len (pa_cons (pv 3) pa_nil)))
      (pss_cons (ps_setLc (i := 7) (own := [("row", 9)]) (g := gName 9) rfl sc_reduced.nd rfl rfl (sw_true rfl rfl rfl (by decide +kernel)) (pi_range2 (by rfl) N.range (pa_cons (pv 6) (pa_cons (pe_callB call_len_seq (by rfl) N.len PySem.boot_len (pa_cons (pv 2) pa_nil)) pa_nil))) (blkOk_by (N := n_reduced) (sc := defScope (top 41)) (by decide +kernel)) (fun _ _ _ _ _ => (pg_name (i := 9) sc_reduced.nd rfl (Or.inl rfl))) (fun _ _ _ _ _ => (pts_one (pt_cmpR op_ne (pe_ix (ix_listK (K := K) rfl) (pe_ix (ix_listK (K := K) rfl) (pv 2) (pv 9) (fun _ _ => rfl)) (pv 5) (fun _ _ => rfl)) pe_int (nomark _)))) (fun _ _ _ _ _ => by exact (pv 9)))
      (pss_one (ps_if (pt_cmpR (op_neD hu64) (pv 7) (pe_lst pa_nil) (nomark _)) (pss_cons (ps_asg (pe_tup (pa_cons (pe_ix ix_list (pv 2) (pe_ix ix_list (pv 7) pe_int (fun _ _ => rfl)) (fun _ _ => rfl)) (pa_cons (pe_ix ix_list (pv 2) (pv 6) (fun _ _ => rfl)) pa_nil))) (pg_tup rfl (pgs_cons (pg_sub (pv 2) (pv 6) set_list) (pgs_cons (pg_sub (pv 2) (pe_ix ix_list (pv 7) pe_int (fun _ _ => rfl)) set_list) pgs_nil))))
      (pss_cons (ps_set (i := 8) sc_reduced.nd rfl (Or.inr rfl) (pe_call G_inverse_of hr1 (by rfl) g_inverse_of k_inverse_of b_inverse_of .nil pass0 (pa_cons (pe_ix ix_list (pe_ix ix_list (pv 2) (pv 6) (fun _ _ => rfl)) (pv 5) (fun _ _ => rfl)) (pa_cons (pv 1) pa_nil))))
      (pss_cons (ps_asg (pe_lc (own := [("one", 11)]) (g := gName 11) (tt := tYes) rfl sc_reduced.nd (pi_list (pe_ix ix_list (pv 2) (pv 6) (fun _ _ => rfl))) (blkOk_by (N := n_reduced) (sc := defScope (top 41)) (by decide +kernel)) (fun _ _ _ _ _ => (pg_name (i := 11) sc_reduced.nd rfl (Or.inl rfl))) (fun _ _ _ _ _ => pts_nil) (fun _ _ _ _ _ => by exact (pe_op op_mod (pe_op op_mul (pv 11) (pv 8)) (pv 1)))) (pg_sub (pv 2) (pv 6) set_list))
      (pss_cons (ps_for PassesOwn.never rfl (pi_range1 (by rfl) N.range (pa_cons (pe_callB call_len_seq (by rfl) N.len PySem.boot_len (pa_cons (pv 2) pa_nil)) pa_nil)) (pg_name (i := 9) sc_reduced.nd rfl (Or.inl rfl))
      (pss_cons (ps_set (i := 10) sc_reduced.nd rfl (Or.inr rfl) (pe_ix (ix_listK (K := K) rfl) (pe_ix (ix_listK (K := K) rfl) (pv 2) (pv 9) (fun _ _ => rfl)) (pv 5) (fun _ _ => rfl)))
      (pss_one (ps_if (PW.pt (pw_and (pt_cmpR op_ne (pv 9) (pv 6) (nomark _)) (pw_and1 (pt_cmpR op_ne (pv 10) pe_int (nomark _))))) (pss_one (ps_asg (pe_lc (own := [("one", 11), ("other", 12)]) (g := gTup K 2 (gCons (gName 11) (gCons (gName 12) gNil))) (tt := tYes) rfl sc_reduced.nd (RZ.pi_zipA (by rfl) N.zip (pa_cons (pe_ix (ix_listK (K := K) rfl) (pv 2) (pv 9) (fun _ _ => rfl)) (pa_cons (pe_ix ix_list (pv 2) (pv 6) (fun _ _ => rfl)) pa_nil))) (blkOk_by (N := n_reduced) (sc := defScope (top 41)) (by decide +kernel)) (fun _ _ _ _ _ => (pg_tup rfl (pgs_cons (pg_name (i := 11) sc_reduced.nd rfl (Or.inl rfl)) (pgs_cons (pg_name (i := 12) sc_reduced.nd rfl (Or.inl rfl)) pgs_nil)))) (fun _ _ _ _ _ => pts_nil) (fun _ _ _ _ _ => by exact (pe_op op_mod (pe_op op_sub (pv 11) (pe_op op_mul (pv 10) (pv 12))) (pv 1)))) (pg_sub (pv 2) (pv 9) set_list))) pss_nil))))
      (pss_one (ps_expr (pe_bm PySem.F.plainAttrs_list PySem.F.slot_list_append PySem.F.type_list_append mt_append (pv 3) (pa_cons (pv 5) pa_nil)))))))) pss_nil)))))
      (pss_one (ps_ret (pe_tup (pa_cons (pe_slice sl_list (pv 2) po_none (po_some (pe_callB call_len_seq (by rfl) N.len PySem.boot_len (pa_cons (pv 3) pa_nil)))) (pa_cons (pv 3) pa_nil))))))), ?_⟩
    -- found, columns = [[..]], []
    refine ⟨_, rfl, a, rfl, ⟨_, SqL.of ha⟩, fun D1 hD1 => ?_⟩
    refine lc_it walk_list (fun i H2 => ∃ acc, H2 D1 = some (.lst acc) ∧ Rws H2 acc ((R0.take i).map fun row => row.map fun x => x % p) ∧ V.ref D1 ∉ acc ∧ Same H H2) ⟨[], upd_same, .nil, (fun z => nomatch z), same_upd hD1⟩ (fun i H2 _ ⟨_, _, _, _, s2⟩ => SqL.of (s2 _ _ ha)) ?_ ?_
    · rintro i v _ H2 hi ⟨acc, hD2, rw2, nD, s2⟩ ⟨rfl, hv⟩
      obtain ⟨row, hrow, b, rfl, hb⟩ := paired_get rw0 hv
      have hb2 := s2 _ _ hb
      have hrm : row ∈ R0 := List.mem_of_getElem? hrow
      have hrl := hw row hrm
      refine ⟨rfl, _, rfl, b, rfl, ⟨_, SqL.of hb2⟩, fun D2 hD2' => ?_⟩
      have nDD : D1 ≠ D2 := ne_of_none hD2 hD2'
      refine lc_it walk_list (GP H2 D2 (fun i acc _ => acc = ((row.take i).map fun x => x % p).map V.int)) (gp_start hD2' rfl) (fun j H8 _ h8 => h8.1.seq (SqL.of hb2)) ?_ ?_
      · rintro j v _ H3 hj ⟨s3, acc3, hD3, racc⟩ ⟨rfl, hv⟩
        obtain ⟨z, hz, rfl⟩ := ints_at hv
        rw [List.length_map] at hj
        refine ⟨rfl, _, rfl, _, rfl, _, _, rfl, rfl, (by show (0 : Int) < p; omega), ?_⟩
        refine gp_grow off_pure hD2' s3 hD3 (Same.refl _) ?_ ?_
        · rw [racc, List.length_map, List.length_map]
          have := List.length_take_le' j row
          exact small_line (by omega)
        · rw [racc, take_snoc hz, List.map_append, List.map_append]; rfl
      rintro H3 ⟨s3, acc3, hD3, racc⟩
      rw [List.length_map, List.take_length] at racc
      subst racc
      have hacc : acc.length ≤ 225 := by
        rw [Paired.length rw2, List.length_map]
        have := List.length_take_le' i R0
        omega
      refine ⟨acc, s3 _ _ hD2, small_line (by omega), acc ++ [.ref D2], upd_same, ?_, ?_, ?_⟩
      · rw [take_snoc hrow, List.map_append]
        exact Paired.snoc (Rws.other (rw2.same s3) nD) ⟨D2, rfl, by rw [upd_ne (Ne.symm nDD)]; exact hD3⟩
      · intro z
        rcases List.mem_append.mp z with z | z
        · exact nD z
        · exact nDD (V.ref.inj (List.mem_singleton.mp z))
      · intro c o e
        rw [upd_ne (ne_of_none e hD1)]
        exact s3 _ _ (s2 c o e)
    rintro H2 ⟨xs, hD2, rw2, nD, s2⟩
    rw [Paired.length rw0, List.take_length] at rw2
    refine ⟨by simp [sizeLine_eq], fun C0 hC0 => ⟨by simp [sizeLine_eq], fun t ht => ?_⟩⟩
    have hC : upd H2 C0 (.lst []) C0 = some (.lst []) := upd_same
    have nDC : D1 ≠ C0 := ne_of_none hD2 hC0
    have s3 : Same H2 (upd (upd H2 C0 (.lst [])) t (.tup [.ref D1, .ref C0])) := Same.upd' (same_upd hC0) ht
    have hC3 := same_upd (o := .tup [.ref D1, .ref C0]) ht _ _ hC
    refine ⟨t, _, rfl, SqT.of upd_same, rfl, ?_⟩
    have hC0H : H C0 = none := s2.free hC0
    have nC : V.ref C0 ∉ xs := fun z => by
      obtain ⟨y, _, b', e1, e2⟩ := paired_mem rw2 z
      cases e1
      rw [hC0] at e2
      cases e2
    have hD3 := s3 _ _ hD2
    have rw3 := rw2.same s3
    have sA := s2.trans s3
    generalize upd (upd H2 C0 (.lst [])) t (.tup [.ref D1, .ref C0]) = H3 at s3 hC3 hD3 rw3 sA
    clear s3 hC rw2 hD2 s2
    have ev0 : Eqv p W R0 (R0.map fun row => row.map fun x => x % p) := Eqv.start hp hw
    have hne : R0.map (fun row => row.map fun x => x % p) = [] ↔ R0 = [] := List.map_eq_nil_iff
    generalize R0.map (fun row => row.map fun x => x % p) = R at rw3 ev0 hne
    refine ⟨_, _, rfl, _, _, rfl, rfl, ?_⟩
    -- wide
    refine ⟨_, rfl, by simp [sizeLine_eq], fun e he => ne_nil_m (SqL.of (same_upd he _ _ hD3)) (rw3.same (same_upd he)) (SqL.of upd_same) ⟨_, rfl, ?_⟩⟩
    refine ite_go (W := (W : Int)) (fun hb Q' q' => ?_) (fun hb => ?_) ?_
    · have hR : R ≠ [] := by simpa using hb
      have hl : 0 < R.length := List.length_pos_iff.mpr hR
      obtain ⟨q0, hq0, hq0'⟩ := (rw3.same (same_upd (o := .lst []) he)).at' hl
      refine ⟨_, rfl, D1, xs, ((0 : Nat) : Int), .ref q0, rfl, rfl, SqL.of (same_upd he _ _ hD3), atI_nat hq0, q0, _, rfl, .inl (SqL.of hq0'), ?_⟩
      rw [List.length_map, ev0.wid' hl]
      exact q'
    · have hR : R = [] := by simpa using hb
      rw [hW0 (hne.mp hR)]
      rfl
    have s4 : Same H3 (upd H3 e (.lst [])) := same_upd he
    generalize upd H3 e (.lst []) = H4 at s4
    clear he e
    have hC4 := s4 _ _ hC3
    have hD4 := s4 _ _ hD3
    have rw4 := rw3.same s4
    have sB := sA.trans s4
    have hRl : R.length ≤ 225 := by rw [ev0.len]; exact h1
    have hD1H : H D1 = none := hD1
    clear hC3 hD3 rw3 sA s4 hne
    -- for column in range(wide)
    refine ⟨_, rfl, _, rfl, rng1 (by omega) (for_it walk_r1 (fun c σ H5 => ∃ (u5 u6 u7 u8 u9 u10 : Option V) (R' : List (List Int)) (cols : List Nat) (xs' : List V),
        σ = [some (.ref a), some (.int p), some (.ref D1), some (.ref C0), some (.int W), u5, u6, u7, u8, u9, u10, none, none] ∧ Same H H5 ∧ H5 D1 = some (.lst xs') ∧ Rws H5 xs' R' ∧ V.ref D1 ∉ xs' ∧ V.ref C0 ∉ xs' ∧
        H5 C0 = some (.lst (cols.map fun k : Nat => V.int (k : Int))) ∧ Red p W R0 R' cols c)
      ⟨none, none, none, none, none, none, R, [], xs, rfl, sB, hD4, rw4, nD, nC, hC4, Red.start ev0⟩ (fun _ _ _ _ _ => trivial) ?_ ?_)⟩
    · rintro c v _ _ H5 hc ⟨u5, u6, u7, u8, u9, u10, R', cols, xs', rfl, s5, hD5, rw5, nD5, nC5, hC5, red⟩ ⟨rfl, rfl⟩
      have hR'l : R'.length ≤ 225 := by rw [red.eqv.len]; exact h1
      have hcl := red.le
      have hxl := Paired.length rw5
      -- at = len(columns)
      refine ⟨_, rfl, C0, _, rfl, .inl (SqL.of hC5), ?_⟩
      rw [show (cols.map fun k : Nat => V.int (k : Int)).length = cols.length by simp]
      -- able
      refine ⟨_, rfl, _, rfl, D1, xs', rfl, .inl (SqL.of hD5), cols.length, xs'.length, rfl, ⟨by omega, by omega, by omega, by omega⟩, fun D2 hD2 => ?_⟩
      refine lc_it walk_range (GP H5 D2 (fun i acc _ => acc = (((List.range i).filter fun k : Nat => !decide (a2 R' (cols.length + k) c = 0)).map fun k : Nat => ((cols.length + k : Nat) : Int)).map V.int)) (gp_start hD2 rfl) (fun _ _ _ _ => trivial) ?_ ?_
      · rintro i v _ H6 hi ⟨s6, acc, hD6, racc⟩ ⟨rfl, rfl⟩
        have hj : cols.length + i < R'.length := by omega
        have hla : acc.length ≤ 225 := by
          rw [racc, List.length_map, List.length_map]
          refine Nat.le_trans (List.length_filter_le ..) ?_
          rw [List.length_range]
          omega
        obtain ⟨q1, hq1, hq1'⟩ := rw5.at' hj
        have hcw : c < (R'.getD (cols.length + i) []).length := by rw [red.eqv.wid' hj]; exact hc
        refine ⟨rfl, _, rfl, _, rfl, D1, xs', ((cols.length + i : Nat) : Int), .ref q1, rfl, rfl, SqL.of (s6 _ _ hD5), atI_nat hq1, _, rfl, q1, _, (c : Int), .int (a2 R' (cols.length + i) c), rfl, rfl, SqL.of (s6 _ _ hq1'), atI_nat (row_at hcw), rfl, _, rfl, ?_⟩
        by_cases hz : a2 R' (cols.length + i) c = 0
        · refine ifF (by rw [hz]; rfl) (gp_skip s6 hD6 (Same.refl _) ?_)
          rw [racc, List.range_succ, List.filter_append]
          simp [hz]
        · refine ifT (by simp [hz]) ⟨_, rfl, gp_grow off_pure hD2 s6 hD6 (Same.refl _) (small_line (by omega)) ?_⟩
          rw [racc, List.range_succ, List.filter_append]
          simp [hz]
      rintro H6 ⟨s6, able, hD6, rable⟩
      subst rable
      -- if able != []
      refine ⟨_, rfl, by simp [sizeLine_eq], fun e he => ne_nil_i (SqL.of (same_upd he _ _ hD6)) (SqL.of upd_same) ⟨_, rfl, ?_⟩⟩
      have s7 := s6.trans (same_upd (o := .lst []) he)
      have hD7 := same_upd (o := .lst []) he _ _ hD6
      generalize upd H6 e (.lst []) = H7 at s7 hD7
      clear hD6 s6 he e
      have s7' := s5.trans s7
      by_cases hab : (List.range ((xs'.length : Int) - (cols.length : Int)).toNat).filter (fun k : Nat => !decide (a2 R' (cols.length + k) c = 0)) = []
      · rw [hab]
        refine ifF (by simp) ⟨_, _, _, _, _, _, R', cols, xs', rfl, s7', s7 _ _ hD5, rw5.same s7, nD5, nC5, s7 _ _ hC5, red.skip fun j h1 h2 => ?_⟩
        have := List.filter_eq_nil_iff.mp hab (j - cols.length) (List.mem_range.mpr (by omega))
        rw [show cols.length + (j - cols.length) = j by omega] at this
        simpa using this
      obtain ⟨k0, rest, hk0⟩ := List.exists_cons_of_ne_nil hab
      have hk0m : k0 ∈ (List.range ((xs'.length : Int) - (cols.length : Int)).toNat).filter (fun k : Nat => !decide (a2 R' (cols.length + k) c = 0)) := by rw [hk0]; exact List.mem_cons_self
      obtain ⟨hk0a, hk0b⟩ := List.mem_filter.mp hk0m
      have hk0a := List.mem_range.mp hk0a
      have hk0b : a2 R' (cols.length + k0) c ≠ 0 := by simpa using hk0b
      refine ifT (by rw [hk0]; rfl) ?_
      rw [hk0] at hD7
      obtain ⟨k, hk⟩ : ∃ k, k = cols.length + k0 := ⟨_, rfl⟩
      obtain ⟨A0, hA⟩ : ∃ A0, A0 = cols.length := ⟨_, rfl⟩
      rw [← hk] at hk0b
      have hkR : k < R'.length := by omega
      have hAR : A0 < R'.length := by omega
      have hAk : cols.length ≤ k := by omega
      obtain ⟨qk, hqk, hqk'⟩ := rw5.at' hkR
      obtain ⟨qa, hqa, hqa'⟩ := rw5.at' hAR
      have hab0 : (((k0 :: rest).map fun k : Nat => ((cols.length + k : Nat) : Int)).map V.int)[0]? = some (.int (k : Int)) := by rw [hk]; rfl
      have hD17 := s7 _ _ hD5
      rw [← hA]
      clear hab hk0m
      refine ⟨_, rfl, _, rfl, D2, _, ((0 : Nat) : Int), .int (k : Int), rfl, rfl, SqL.of hD7, atI_nat hab0, D1, xs', (k : Int), .ref qk, rfl, rfl, SqL.of hD17, atI_nat hqk, _, rfl, _, rfl, D1, xs', (A0 : Int), .ref qa, rfl, rfl, SqL.of hD17, atI_nat hqa,
        by simp [sizeLine_eq], fun t2 ht2 => ?_⟩
      have hD27 := same_upd (o := .tup [.ref qk, .ref qa]) ht2 _ _ hD7
      have nD2 : D2 ≠ D1 := by rintro rfl; rw [hD5] at hD2; cases hD2
      refine ⟨t2, _, rfl, SqT.of upd_same, rfl, _, _, rfl, _, rfl, _, rfl, D1, xs', (A0 : Int), A0, rfl, rfl, same_upd ht2 _ _ hD17, ixn_nat (by omega), ?_⟩
      refine ⟨_, _, rfl, _, rfl, _, rfl, D2, _, ((0 : Nat) : Int), .int (k : Int), rfl, rfl, SqL.of (by rw [upd_ne nD2]; exact hD27), atI_nat hab0, D1, _, (k : Int), k, rfl, rfl, upd_same, ixn_nat (by rw [List.length_set]; omega), rfl, ?_⟩
      have rw8 : Rws (upd (upd (upd H7 t2 (.tup [.ref qk, .ref qa])) D1 (.lst (xs'.set A0 (.ref qk)))) D1 (.lst ((xs'.set A0 (.ref qk)).set k (.ref qa)))) ((xs'.set A0 (.ref qk)).set k (.ref qa)) (swp R' A0 k) := by
        have z := Rws.other (Rws.other (Rws.same (same_upd (o := .tup [.ref qk, .ref qa]) ht2) (rw5.same s7)) (o := .lst (xs'.set A0 (.ref qk))) nD5) (o := .lst ((xs'.set A0 (.ref qk)).set k (.ref qa))) nD5
        have nk : V.ref qk ≠ .ref D1 := fun e => nD5 (by rw [← e]; exact List.mem_of_getElem? hqk)
        have na : V.ref qa ≠ .ref D1 := fun e => nD5 (by rw [← e]; exact List.mem_of_getElem? hqa)
        have nk' : qk ≠ D1 := fun e => nk (by rw [e])
        have na' : qa ≠ D1 := fun e => na (by rw [e])
        refine paired_set (paired_set z A0 ⟨qk, rfl, ?_⟩) k ⟨qa, rfl, ?_⟩
        · rw [upd_ne nk', upd_ne nk']
          exact same_upd ht2 _ _ (s7 _ _ hqk')
        · rw [upd_ne na', upd_ne na']
          exact same_upd ht2 _ _ (s7 _ _ hqa')
      have s8 : Same H (upd (upd (upd H7 t2 (.tup [.ref qk, .ref qa])) D1 (.lst (xs'.set A0 (.ref qk)))) D1 (.lst ((xs'.set A0 (.ref qk)).set k (.ref qa)))) := fun b o e => by
        have nb := ne_of_none e hD1H
        rw [upd_ne nb, upd_ne nb]
        exact same_upd ht2 _ _ (s7' _ _ e)
      have hD8 : upd (upd (upd H7 t2 (.tup [.ref qk, .ref qa])) D1 (.lst (xs'.set A0 (.ref qk)))) D1 (.lst ((xs'.set A0 (.ref qk)).set k (.ref qa))) D1 = some (.lst ((xs'.set A0 (.ref qk)).set k (.ref qa))) := upd_same
      have hC8 : upd (upd (upd H7 t2 (.tup [.ref qk, .ref qa])) D1 (.lst (xs'.set A0 (.ref qk)))) D1 (.lst ((xs'.set A0 (.ref qk)).set k (.ref qa))) C0 = some (.lst (cols.map fun k : Nat => V.int (k : Int))) := by
        rw [upd_ne (Ne.symm nDC), upd_ne (Ne.symm nDC)]
        exact same_upd ht2 _ _ (s7 _ _ hC5)
      have hsub1 : ∀ v ∈ (xs'.set A0 (.ref qk)).set k (.ref qa), v ∈ xs' := fun v hv => by
        rcases List.mem_or_eq_of_mem_set hv with z | z
        · rcases List.mem_or_eq_of_mem_set z with z | z
          · exact z
          · rw [z]; exact List.mem_of_getElem? hqk
        · rw [z]; exact List.mem_of_getElem? hqa
      have nD8 : V.ref D1 ∉ (xs'.set A0 (.ref qk)).set k (.ref qa) := fun z => nD5 (hsub1 _ z)
      have nC8 : V.ref C0 ∉ (xs'.set A0 (.ref qk)).set k (.ref qa) := fun z => nC5 (hsub1 _ z)
      have hl8 : ((xs'.set A0 (.ref qk)).set k (.ref qa)).length = xs'.length := by simp
      generalize upd (upd (upd H7 t2 (.tup [.ref qk, .ref qa])) D1 (.lst (xs'.set A0 (.ref qk)))) D1 (.lst ((xs'.set A0 (.ref qk)).set k (.ref qa))) = H8 at rw8 s8 hD8 hC8
      generalize (xs'.set A0 (.ref qk)).set k (.ref qa) = xs1 at rw8 hD8 nD8 nC8 hl8
      clear hsub1 hD27 hD17 hD7 s7 s7' hab0 hqk hqk' hqa hqa' rw5 hC5
      have e1 : Eqv p W R0 (swp R' A0 k) := red.eqv.swap hAR hkR
      have hs1 : (swp R' A0 k).length = R'.length := swp_len R' A0 k
      have hvA : a2 (swp R' A0 k) A0 c = a2 R' k c := by
        rw [a2_swp hAR hkR]
        by_cases e : A0 = k
        · rw [if_pos e, e]
        · rw [if_neg e, if_pos rfl]
      -- turn = inverse_of(found[at][column], prime)
      obtain ⟨qa, hqa, hqa'⟩ := rw8.at' (j := A0) (by omega)
      have hwA : ((swp R' A0 k).getD A0 []).length = W := e1.wid' (by omega)
      have hb8 := e1.a2_red hp A0 c
      refine ⟨_, rfl, _, rfl, D1, xs1, (A0 : Int), .ref qa, rfl, rfl, SqL.of hD8, atI_nat hqa, _, rfl, qa, _, (c : Int), .int (a2 (swp R' A0 k) A0 c), rfl, rfl, SqL.of hqa', atI_nat (row_at (by omega)), _, rfl, a2 (swp R' A0 k) A0 c, p, rfl, hp, by omega, hb8.2, fun H9 t9 s9 ht9 h90 h9p => ?_⟩
      rw [hvA] at ht9
      have hD9 := s9 _ _ hD8
      have hC9 := s9 _ _ hC8
      have rw9 := rw8.same s9
      have sC9 := s8.trans s9
      have hqa9 := s9 _ _ hqa'
      clear hD8 hC8 rw8 s8 hqa' s9
      -- found[at] = [..]
      refine ⟨_, rfl, _, rfl, D1, xs1, (A0 : Int), .ref qa, rfl, rfl, SqL.of hD9, atI_nat hqa, qa, rfl, ⟨_, SqL.of hqa9⟩, fun D3 hD3 => ?_⟩
      refine lc_it walk_list (GP H9 D3 (fun i acc _ => acc = ((((swp R' A0 k).getD A0 []).take i).map fun x => x * t9 % p).map V.int)) (gp_start hD3 rfl) (fun j H8 _ h8 => h8.1.seq (SqL.of hqa9)) ?_ ?_
      · rintro j v _ H3 hj ⟨s3, acc3, hD3', racc⟩ ⟨rfl, hv⟩
        obtain ⟨z, hz, rfl⟩ := ints_at hv
        rw [List.length_map] at hj
        refine ⟨rfl, _, rfl, _, rfl, _, _, rfl, rfl, .inr ⟨by omega, by omega⟩, _, rfl, _, _, rfl, rfl, (by show (0 : Int) < p; omega), ?_⟩
        refine gp_grow off_pure hD3 s3 hD3' (Same.refl _) ?_ ?_
        · rw [racc, List.length_map, List.length_map]
          have := List.length_take_le' j ((swp R' A0 k).getD A0 [])
          exact small_line (by omega)
        · rw [racc, take_snoc hz, List.map_append, List.map_append]; rfl
      rintro H10 ⟨s10, acc3, hD3', racc⟩
      rw [List.length_map, List.take_length] at racc
      subst racc
      refine ⟨_, rfl, _, rfl, D1, xs1, (A0 : Int), A0, rfl, rfl, s10 _ _ hD9, ixn_nat (by omega), ?_⟩
      have n31 : D3 ≠ D1 := by rintro rfl; rw [hD9] at hD3; cases hD3
      have n3C : D3 ≠ C0 := by rintro rfl; rw [hC9] at hD3; cases hD3
      have s11 : Same H (upd H10 D1 (.lst (xs1.set A0 (.ref D3)))) := fun b o e => by
        rw [upd_ne (ne_of_none e hD1H)]
        exact s10 _ _ (sC9 _ _ e)
      have hD11 : upd H10 D1 (.lst (xs1.set A0 (.ref D3))) D1 = some (.lst (xs1.set A0 (.ref D3))) := upd_same
      have hC11 : upd H10 D1 (.lst (xs1.set A0 (.ref D3))) C0 = some (.lst (cols.map fun k : Nat => V.int (k : Int))) := by
        rw [upd_ne (Ne.symm nDC)]
        exact s10 _ _ hC9
      have rw11 : Rws (upd H10 D1 (.lst (xs1.set A0 (.ref D3)))) (xs1.set A0 (.ref D3)) (prep p t9 A0 k R') := by
        refine paired_set (Rws.other (rw9.same s10) nD8) A0 ⟨D3, rfl, ?_⟩
        rw [upd_ne n31]
        exact hD3'
      have nD11 : V.ref D1 ∉ xs1.set A0 (.ref D3) := fun z => by
        rcases List.mem_or_eq_of_mem_set z with z | z
        · exact nD8 z
        · exact n31 (V.ref.inj z).symm
      have nC11 : V.ref C0 ∉ xs1.set A0 (.ref D3) := fun z => by
        rcases List.mem_or_eq_of_mem_set z with z | z
        · exact nC8 z
        · exact n3C (V.ref.inj z).symm
      have hl11 : (xs1.set A0 (.ref D3)).length = xs'.length := by rw [List.length_set]; exact hl8
      generalize upd H10 D1 (.lst (xs1.set A0 (.ref D3))) = H11 at s11 hD11 hC11 rw11
      generalize xs1.set A0 (.ref D3) = xs2 at hD11 rw11 nD11 nC11 hl11
      clear hD3' n31 n3C s10 hD3 hqa9 sC9 rw9 hC9 hD9 hqa H10 H9 nD8 nC8 hl8
      have hpl := prep_len p t9 A0 k R'
      have hscl : ∀ e ∈ scl p t9 ((swp R' A0 k).getD A0 []), 0 ≤ e ∧ e < p := fun e he => by
        obtain ⟨x, _, rfl⟩ := List.mem_map.mp he
        exact emod_bd hp _
      have e2 : Eqv p W R0 (prep p t9 A0 k R') := by
        obtain ⟨l, hl⟩ : p ∣ t9 * a2 R' k c - 1 := by
          refine ⟨t9 * a2 R' k c / p, ?_⟩
          have := Int.mul_ediv_add_emod (t9 * a2 R' k c) p
          omega
        refine e1.set (a := t9) (a' := a2 R' k c) (b := 0) (k := A0) (by omega) (by omega) (.inr rfl) ⟨l, hl⟩ ?_ hscl fun j => ?_
        · unfold scl
          rw [List.length_map]
          exact hwA
        · have e3 : fn (scl p t9 ((swp R' A0 k).getD A0 [])) j = a2 (swp R' A0 k) A0 j * t9 % p := fn_map (fun x => x * t9 % p) (by simp) _ j
          rw [e3]
          obtain ⟨m, hm⟩ := dvd_mod_sub p (a2 (swp R' A0 k) A0 j * t9)
          exact ⟨m, by grind⟩
      -- for row in range(len(found))
      refine ⟨_, rfl, D1, xs2, rfl, .inl (SqL.of hD11), _, rfl, rng1 (by omega) (for_it walk_r1 (fun i σ H12 => ∃ (u9 u10 : Option V) (xs3 : List V),
          σ = [some (.ref a), some (.int p), some (.ref D1), some (.ref C0), some (.int W), some (.int c), some (.int A0), some (.ref D2), some (.int t9), u9, u10, none, none] ∧ Same H H12 ∧ H12 D1 = some (.lst xs3) ∧ Rws H12 xs3 (clrs p A0 c (prep p t9 A0 k R') i) ∧
          V.ref D1 ∉ xs3 ∧ V.ref C0 ∉ xs3 ∧ H12 C0 = some (.lst (cols.map fun k : Nat => V.int (k : Int))))
        ⟨u9, u10, xs2, rfl, s11, hD11, rw11, nD11, nC11, hC11⟩ (fun _ _ _ _ _ => trivial) ?_ ?_)⟩
      · rintro i v _ _ H12 hi ⟨u9, u10, xs3, rfl, s12, hD12, rw12, nD12, nC12, hC12⟩ ⟨rfl, rfl⟩
        obtain ⟨eS, _⟩ := clrs_all hp e2 (c := c) (a := A0) (by omega) i (by omega)
        have hSl := clrs_len p A0 c (prep p t9 A0 k R') i
        have hS1 : clrs p A0 c (prep p t9 A0 k R') (i + 1) = clr p A0 c (clrs p A0 c (prep p t9 A0 k R') i) i := rfl
        generalize clrs p A0 c (prep p t9 A0 k R') i = S at rw12 eS hSl hS1
        have hiS : i < S.length := by omega
        have hAS : A0 < S.length := by omega
        have hx3 := Paired.length rw12
        obtain ⟨qi, hqi, hqi'⟩ := rw12.at' hiS
        obtain ⟨qA, hqA, hqA'⟩ := rw12.at' hAS
        have hwi : (S.getD i []).length = W := eS.wid' hiS
        have hwA' : (S.getD A0 []).length = W := eS.wid' hAS
        have hbm := eS.a2_red hp i c
        -- many
        refine ⟨_, rfl, _, rfl, D1, xs3, (i : Int), .ref qi, rfl, rfl, SqL.of hD12, atI_nat hqi, _, rfl, qi, _, (c : Int), .int (a2 S i c), rfl, rfl, SqL.of hqi', atI_nat (row_at (by omega)), ?_⟩
        -- if row != at and many != 0
        refine ⟨_, rfl, _, rfl, rfl, _, rfl, ?_⟩
        by_cases hiA : i = A0
        · have hcl : clr p A0 c S i = S := by unfold clr; rw [if_neg (fun z => z.1 hiA)]
          rw [hcl] at hS1
          refine ifF (by rw [hiA]; simp) (iteF ⟨_, _, xs3, rfl, s12, hD12, ?_, nD12, nC12, hC12⟩)
          rw [hS1]
          exact rw12
        refine ifT (by simp; omega) ⟨_, rfl, rfl, _, rfl, ?_⟩
        by_cases hm0 : a2 S i c = 0
        · have hcl : clr p A0 c S i = S := by unfold clr; rw [if_neg (fun z => z.2 hm0)]
          rw [hcl] at hS1
          refine ifF (by rw [hm0]; rfl) ⟨_, _, xs3, rfl, s12, hD12, ?_, nD12, nC12, hC12⟩
          rw [hS1]
          exact rw12
        have hcl : clr p A0 c S i = S.set i (List.zipWith (fun o q => (o - a2 S i c * q) % p) (S.getD i []) (S.getD A0 [])) := by unfold clr; rw [if_pos ⟨hiA, hm0⟩]
        rw [hcl] at hS1
        refine ifT (by simp [hm0]) ?_
        refine ⟨_, rfl, _, rfl, D1, xs3, (i : Int), .ref qi, rfl, rfl, SqL.of hD12, atI_nat hqi, _, rfl, _, rfl, D1, xs3, (A0 : Int), .ref qA, rfl, rfl, SqL.of hD12, atI_nat hqA, qi, qA, _, _, rfl, .inl ⟨SqL.of hqi', SqL.of hqA', fun D4 hN4 => ?_⟩⟩
        refine lc_it (walk_zip (n := W) (by rw [List.length_map, List.length_map, hwi, hwA', Nat.min_self])) (GP H12 D4 (fun j acc _ => acc = ((List.zipWith (fun o q => (o - a2 S i c * q) % p) (S.getD i []) (S.getD A0 [])).take j).map V.int)) (gp_start hN4 rfl)
          (fun j H8 _ h8 => ⟨h8.1.seq (SqL.of hqi'), h8.1.seq (SqL.of hqA')⟩) ?_ ?_
        · rintro j v H13 _ hj ⟨s13, acc, hD13, racc⟩ ⟨T, x, z, rfl, hT, rfl, hx, hz⟩
          obtain ⟨zx, hzx, rfl⟩ := ints_at hx
          obtain ⟨zz, hzz, rfl⟩ := ints_at hz
          refine ⟨T, _, rfl, SqT.of upd_same, rfl, _, _, rfl, _, _, rfl, rfl, ?_⟩
          refine ⟨rfl, _, rfl, _, rfl, _, rfl, _, _, rfl, rfl, .inl ⟨by omega, by omega⟩, _, _, rfl, rfl, _, rfl, _, _, rfl, rfl, (by show (0 : Int) < p; omega), ?_⟩
          have hzip : (List.zipWith (fun o q => (o - a2 S i c * q) % p) (S.getD i []) (S.getD A0 []))[j]? = some ((zx - a2 S i c * zz) % p) := by
            rw [List.getElem?_zipWith, hzx, hzz]
          refine gp_grow off_pure hN4 s13 hD13 (same_upd hT) ?_ ?_
          · rw [racc, List.length_map]
            have := List.length_take_le j (List.zipWith (fun o q => (o - a2 S i c * q) % p) (S.getD i []) (S.getD A0 []))
            exact small_line (by omega)
          · rw [racc, take_snoc hzip, List.map_append]; rfl
        rintro H13 ⟨s13, acc, hD13, racc⟩
        rw [List.take_of_length_le (by rw [List.length_zipWith, hwi, hwA', Nat.min_self]; exact Nat.le_refl _)] at racc
        subst racc
        have n41 : D4 ≠ D1 := by rintro rfl; rw [hD12] at hN4; cases hN4
        have n4C : D4 ≠ C0 := by rintro rfl; rw [hC12] at hN4; cases hN4
        refine ⟨_, rfl, _, rfl, D1, xs3, (i : Int), i, rfl, rfl, s13 _ _ hD12, ixn_nat (by omega), ?_⟩
        refine ⟨_, _, xs3.set i (.ref D4), rfl, fun b o e => ?_, upd_same, ?_, ?_, ?_, ?_⟩
        · rw [upd_ne (ne_of_none e hD1H)]
          exact s13 _ _ (s12 b o e)
        · rw [hS1]
          refine paired_set (Rws.other (rw12.same s13) nD12) i ⟨D4, rfl, ?_⟩
          rw [upd_ne n41]
          exact hD13
        · intro z
          rcases List.mem_or_eq_of_mem_set z with z | z
          · exact nD12 z
          · exact n41 (V.ref.inj z).symm
        · intro z
          rcases List.mem_or_eq_of_mem_set z with z | z
          · exact nC12 z
          · exact n4C (V.ref.inj z).symm
        · rw [upd_ne (Ne.symm nDC)]
          exact s13 _ _ hC12
      · rintro _ H12 ⟨u9, u10, xs3, rfl, s12, hD12, rw12, nD12, nC12, hC12⟩
        rw [hl11, hxl] at rw12
        -- columns.append(column)
        refine ⟨_, rfl, .inl ⟨rfl, _, SqL.of hC12⟩, _, rfl, C0, _, .int (c : Int), rfl, rfl, hC12, ?_, ?_⟩
        · rw [List.length_map]
          exact small_line (by omega)
        · refine ⟨_, _, _, _, _, _, _, cols ++ [c], xs3, rfl, fun b o e => ?_, ?_, Rws.other rw12 nC12, nD12, nC12, ?_, ?_⟩
          · rw [upd_ne (ne_of_none e hC0H)]
            exact s12 b o e
          · rw [upd_ne nDC]
            exact hD12
          · rw [upd_same, List.map_append]; rfl
          · have := red.pivot hp hAk hkR ht9
            rw [← hA] at this
            exact this
    · rintro _ H5 ⟨u5, u6, u7, u8, u9, u10, R', cols, xs', rfl, s5, hD5, rw5, nD5, nC5, hC5, red⟩
      -- return
      refine ⟨_, rfl, _, rfl, C0, _, rfl, .inl (SqL.of hC5), _, rfl, D1, xs', rfl, SqL.of hD5, fun f hf => ?_⟩
      refine ⟨_, rfl, by simp [sizeLine_eq], fun t5 ht5 => ?_⟩
      have s6 := Same.upd' (o := .tup [.ref f, .ref C0]) (same_upd hf) ht5
      exact q _ t5 f C0 _ cols.length (s5.trans s6) upd_same (s6 _ _ hC5) (by simp) (red.rank hp)
end
end K96

/-! Plain: the rank of the boundary, told by faces. -/
namespace K96
/-- row x of the boundary between n and n + 1 vertices -/
def bdf (F : List Fa) (n : Nat) (x y : Fa) : Int := if y ∈ sAt F (n + 1) then cf x y else 0
def bdv (F : List Fa) (n : Nat) : List (Fa → Int) := (sAt F n).map fun x => bdf F n x
/-- r is the boundary's rank there -/
def RkF (p : Int) (F : List Fa) (n r : Nat) : Prop := IsRank p (bdv F n) r
theorem IsRank.same {I : Type} {p : Int} {R R' : List (I → Int)} {r : Nat} (h : IsRank p R r) (e : ∀ v, v ∈ R ↔ v ∈ R') : IsRank p R' r := by
  obtain ⟨T, h1, h2, h3, h4, h5⟩ := h
  exact ⟨T, h1, fun t ht => (h2 t ht).trans fun v hv => Spn.mem ((e v).mp hv), h3, h4, fun v hv => h5 v ((e v).mpr hv)⟩
theorem fn_at {U : List Fa} {f : Fa → Int} (y : Fa) : fn (U.map f) (U.idxOf y) = if y ∈ U then f y else 0 := by
  unfold fn
  rw [List.getD_eq_getElem?_getD, List.getElem?_map]
  by_cases h : y ∈ U
  · rw [if_pos h]
    have hl : U.idxOf y < U.length := List.idxOf_lt_length_iff.mpr h
    rw [List.getElem?_eq_getElem hl, List.getElem_idxOf hl]
    rfl
  · rw [if_neg h]
    have hl : ¬ U.idxOf y < U.length := fun z => h (List.idxOf_lt_length_iff.mp z)
    rw [List.getElem?_eq_none (by omega)]
    rfl
theorem idx_getD {U : List Fa} (hnd : U.Nodup) {j : Nat} (h : j < U.length) : U.idxOf (U.getD j []) = j := by
  have e : U.getD j [] = U[j] := by rw [List.getD_eq_getElem?_getD, List.getElem?_eq_getElem h]; rfl
  rw [e]
  have hm : U[j] ∈ U := List.getElem_mem h
  have hl : U.idxOf U[j] < U.length := List.idxOf_lt_length_iff.mpr hm
  have hp := List.pairwise_iff_getElem.mp hnd
  have ee := List.getElem_idxOf hl
  rcases Nat.lt_trichotomy (U.idxOf U[j]) j with q | q | q
  · exact absurd ee (hp _ _ hl h q)
  · exact q
  · exact absurd ee.symm (hp _ _ h hl q)
theorem rank_conv {p : Int} {F : List Fa} (fc : Fc F) {n r : Nat} {L U : List Fa} (pL : L.Perm (sAt F n)) (pU : U.Perm (sAt F (n + 1))) (h : RankW p U.length (rowsOf L U) r) : RkF p F n r := by
  have hnd : U.Nodup := pU.nodup_iff.mpr (sAt_nd fc _)
  obtain ⟨T, e, h1, h2, h3, h4, h5⟩ := h
  have q := IsRank.comp (p := p) (R := (rowsOf L U).map fn) (fun y : Fa => U.idxOf y) (fun j => U.getD j []) h1 h2 h3 h4 fun t ht => idx_getD hnd (h5 t ht)
  rw [e] at q
  refine q.same fun v => ?_
  unfold bdv rowsOf
  rw [List.map_map, List.map_map]
  have ef : ∀ x, (fun j : Fa => fn (U.map fun y => cf x y) (U.idxOf j)) = bdf F n x := fun x => by
    funext y
    rw [fn_at]
    unfold bdf
    by_cases hy : y ∈ U
    · rw [if_pos hy, if_pos (pU.mem_iff.mp hy)]
    · rw [if_neg hy, if_neg (fun z => hy (pU.mem_iff.mpr z))]
  constructor
  · intro hv
    obtain ⟨x, hx, rfl⟩ := List.mem_map.mp hv
    exact List.mem_map.mpr ⟨x, pL.mem_iff.mp hx, (ef x).symm⟩
  · intro hv
    obtain ⟨x, hx, rfl⟩ := List.mem_map.mp hv
    exact List.mem_map.mpr ⟨x, pL.mem_iff.mpr hx, ef x⟩
theorem RkF.uniq {p : Int} (hp : Pr p) {F : List Fa} {n r r' : Nat} (h : RkF p F n r) (h' : RkF p F n r') : r = r' := IsRank.uniq hp h h' fun _ => Iff.rfl
end K96

/-! rank_in, count_at, holes_in, holes_mod. -/
namespace K96
open PySem PySem.Spec PyProof.Rows L2
theorem rowsOf_len {L U : List Fa} : (rowsOf L U).length = L.length := by simp [rowsOf]
theorem rowsOf_wid {L U : List Fa} : ∀ row ∈ rowsOf L U, row.length = U.length := fun row h => by
  obtain ⟨x, _, rfl⟩ := List.mem_map.mp h
  rw [List.length_map]
theorem sAt_empty {F : List Fa} (fc : Fc F) {n : Nat} (h : sAt F n = []) : sAt F (n + 1) = [] := by
  have hn : n ≠ 0 := by
    rintro rfl
    cases h
  refine List.eq_nil_iff_forall_not_mem.mpr fun y hy => ?_
  rcases (mem_sAt fc).mp hy with z | ⟨hyF, hyl⟩
  · exact absurd z.2 (by omega)
  · have hd : Dn (y.eraseIdx 0) y := ⟨0, by omega, rfl⟩
    have hl := hd.len
    have : y.eraseIdx 0 ∈ sAt F n := (mem_sAt fc).mpr (.inr ⟨fc.cl y hyF _ (fun z => by rw [z] at hl; simp at hl; omega) hd.sub, by omega⟩)
    rw [h] at this
    cases this
section
variable {P : Program} {w : World} {K : PySem.W.Frag} {mg : Str → Option Value} {base : Heap} {C : Addr}

def spRankIn : Sp := fun vs H Q _ => ∃ (a : Addr) (p : Int) (W : Nat) (R0 : List (List Int)), vs = [.ref a, .int p] ∧ Pr p ∧ Mx H a R0 ∧ (∀ row ∈ R0, row.length = W) ∧ (R0 = [] → W = 0) ∧ R0.length ≤ 225 ∧ W ≤ 225 ∧
  ∀ H' (r : Nat), Same H H' → RankW p W R0 r → Q (.int r) H'
abbrev n_rank_in : List Str := ["rows", "prime"]
theorem sc_rank_in : FnScope n_rank_in ["rows", "prime"] (defScope (top 42)) := ⟨rfl, rfl, rfl, by decide +kernel, rfl, by decide +kernel, by decide +kernel⟩
theorem ok_rank_in (N : Nm mg) (D : Def K mg "rank_in" (top 42)) (c1 : Cal P w K mg base "reduced" 2 ["rows", "prime"] spReduced) : Cal P w K mg base "rank_in" 3 ["rows", "prime"] spRankIn := by
  obtain ⟨f1, fd1, G_reduced, g_reduced, k_reduced, b_reduced⟩ := c1.ex
  refine D.ok sc_rank_in (fun vs H Q E h => ?_) (fun _ _ _ _ _ _ us hl => match us, hl with | [_, _], _ => rfl) (fun f cdv A outer s H vs Q E hr h => ?_)
  · obtain ⟨a, p, W, R0, rfl, _⟩ := h
    rfl
  · obtain ⟨a, p, W, R0, rfl, hp, hm, hw, hW0, h1, h2, q⟩ := h
    refine ⟨_, pss_one (ps_ret (pe_callB call_len_seq (by rfl) N.len PySem.boot_len (pa_cons (pe_ix ix_tup (pe_call G_reduced hr (by rfl) g_reduced k_reduced b_reduced .nil pass0 (pa_cons (pv 0) (pa_cons (pv 1) pa_nil))) pe_int (fun _ _ => rfl)) pa_nil))), ?_⟩
    refine ⟨_, rfl, _, rfl, a, p, W, R0, rfl, hp, hm, hw, hW0, h1, h2, fun H2 t f c cs r s2 ht hc hl hrk => ?_⟩
    refine ⟨t, _, ((1 : Nat) : Int), .ref c, rfl, rfl, SqT.of ht, atI_nat rfl, c, cs, rfl, .inl (SqL.of hc), ?_⟩
    rw [hl]
    exact q H2 r s2 hrk

def spCountAt (C : Addr) : Sp := fun vs H Q _ => ∃ (p d : Addr) (F : List Fa) (k : Int) (n : Nat), vs = [.ref p, .int k] ∧ k = (n : Int) - 1 ∧ Shp C H p d F ∧ ∀ H', Same H H' → Q (.int (sAt F n).length) H'
abbrev n_count_at : List Str := ["shape", "degree"]
theorem sc_count_at : FnScope n_count_at ["shape", "degree"] (defScope (top 44)) := ⟨rfl, rfl, rfl, by decide +kernel, rfl, by decide +kernel, by decide +kernel⟩
theorem ok_count_at (N : Nm mg) (D : Def K mg "count_at" (top 44)) (c1 : Cal P w K mg base "simplices_at" 2 ["shape", "degree"] (spSimplicesAt C)) : Cal P w K mg base "count_at" 3 ["shape", "degree"] (spCountAt C) := by
  obtain ⟨f1, fd1, G_simplices_at, g_simplices_at, k_simplices_at, b_simplices_at⟩ := c1.ex
  refine D.ok sc_count_at (fun vs H Q E h => ?_) (fun _ _ _ _ _ _ us hl => match us, hl with | [_, _], _ => rfl) (fun f cdv A outer s H vs Q E hr h => ?_)
  · obtain ⟨p, d, F, k, n, rfl, _⟩ := h
    rfl
  · obtain ⟨p, d, F, k, n, rfl, hk, sh, q⟩ := h
    refine ⟨_, pss_one (ps_ret (pe_callB call_len_seq (by rfl) N.len PySem.boot_len (pa_cons (pe_call G_simplices_at hr (by rfl) g_simplices_at k_simplices_at b_simplices_at .nil pass0 (pa_cons (pv 0) (pa_cons (pv 1) pa_nil))) pa_nil))), ?_⟩
    refine ⟨_, rfl, _, rfl, p, d, F, k, n, rfl, hk, sh, fun H2 r ys M s2 _ hr2 tM pM => ⟨r, ys, rfl, .inl (SqL.of hr2), ?_⟩⟩
    rw [Paired.length tM, pM.length_eq]
    exact q H2 s2

def spHolesIn (C : Addr) : Sp := fun vs H Q _ => ∃ (s d : Addr) (F : List Fa) (n : Nat) (p : Int), vs = [.ref s, .int n, .int p] ∧ Shp C H s d F ∧ Pr p ∧
  ∀ H' (r1 r2 : Nat), Same H H' → RkF p F n r1 → RkF p F (n + 1) r2 → Q (.int ((sAt F (n + 1)).length - r1 - r2)) H'
abbrev n_holes_in : List Str := ["shape", "degree", "prime", "lower"]
theorem sc_holes_in : FnScope n_holes_in ["shape", "degree", "prime"] (defScope (top 45)) := ⟨rfl, rfl, rfl, by decide +kernel, rfl, by decide +kernel, by decide +kernel⟩
theorem ok_holes_in (D : Def K mg "holes_in" (top 45)) (c1 : Cal P w K mg base "rank_in" 3 ["rows", "prime"] spRankIn) (c2 : Cal P w K mg base "rows_at" 3 ["shape", "degree"] (spRowsAt C)) (c3 : Cal P w K mg base "count_at" 3 ["shape", "degree"] (spCountAt C)) :
    Cal P w K mg base "holes_in" 4 ["shape", "degree", "prime"] (spHolesIn C) := by
  obtain ⟨f1, fd1, G_rank_in, g_rank_in, k_rank_in, b_rank_in⟩ := c1.ex
  obtain ⟨f2, fd2, G_rows_at, g_rows_at, k_rows_at, b_rows_at⟩ := c2.ex
  obtain ⟨f3, fd3, G_count_at, g_count_at, k_count_at, b_count_at⟩ := c3.ex
  refine D.ok sc_holes_in (fun vs H Q E h => ?_) (fun _ _ _ _ _ _ us hl => match us, hl with | [_, _, _], _ => rfl) (fun f cdv A outer s H vs Q E hr h => ?_)
  · obtain ⟨p, d, F, n, pr, rfl, _⟩ := h
    rfl
  · obtain ⟨p, d, F, n, pr, rfl, sh, hp, q⟩ := h
    have fc := sh.fd.fc
    have cond : ∀ {m : Nat} {L U : List Fa}, L.Perm (sAt F m) → U.Perm (sAt F (m + 1)) → (rowsOf L U = [] → U.length = 0) ∧ (rowsOf L U).length ≤ 225 ∧ U.length ≤ 225 := fun {m L U} pL pU => by
      refine ⟨fun z => ?_, by rw [rowsOf_len, pL.length_eq]; exact sAt_len fc m, by rw [pU.length_eq]; exact sAt_len fc (m + 1)⟩
      have hL : L = [] := List.map_eq_nil_iff.mp z
      rw [hL] at pL
      have := sAt_empty fc (List.nil_perm.mp pL)
      rw [pU.length_eq, this]
      rfl
    refine ⟨_, pss_cons (ps_set (i := 3) sc_holes_in.nd rfl (Or.inl rfl) (pe_ifExp (pt_cmpR op_ge (pv 1) pe_int (nomark _)) (pe_call G_rank_in hr (by rfl) g_rank_in k_rank_in b_rank_in .nil pass0 (pa_cons (pe_call G_rows_at hr (by rfl) g_rows_at k_rows_at b_rows_at .nil pass0 (pa_cons (pv 0) (pa_cons (pv 1) pa_nil))) (pa_cons (pv 2) pa_nil))) pe_int))
      (pss_one (ps_ret (pe_op op_sub (pe_op op_sub (pe_call G_count_at hr (by rfl) g_count_at k_count_at b_count_at .nil pass0 (pa_cons (pv 0) (pa_cons (pv 1) pa_nil))) (pv 3)) (pe_call G_rank_in hr (by rfl) g_rank_in k_rank_in b_rank_in .nil pass0 (pa_cons (pe_call G_rows_at hr (by rfl) g_rows_at k_rows_at b_rows_at .nil pass0 (pa_cons (pv 0) (pa_cons (pe_op op_add (pv 1) pe_int) pa_nil))) (pa_cons (pv 2) pa_nil)))))), ?_⟩
    -- lower
    refine ⟨_, rfl, _, _, rfl, rfl, _, rfl, ?_⟩
    refine ifT (decide_eq_true (by omega)) ?_
    refine ⟨_, rfl, _, rfl, p, d, F, _, n, rfl, rfl, sh, fun H2 r L U s2 mx pL pU => ?_⟩
    obtain ⟨z1, z2, z3⟩ := cond pL pU
    refine ⟨_, rfl, r, pr, U.length, rowsOf L U, rfl, hp, mx, rowsOf_wid, z1, z2, z3, fun H3 r1 s3 rk1 => ?_⟩
    have hr1 := rank_conv fc pL pU rk1
    have sA := s2.trans s3
    clear z1 z2 z3 mx pL pU
    -- count_at(..) - lower - rank_in(..)
    refine ⟨_, rfl, _, rfl, p, d, F, _, n + 1, rfl, by omega, sh.same sA, fun H4 s4 => ?_⟩
    have sB := sA.trans s4
    refine ⟨_, rfl, _, _, rfl, rfl, ?_⟩
    refine ⟨_, rfl, _, rfl, _, _, rfl, rfl, p, d, F, _, n + 1, rfl, by omega, sh.same sB, fun H5 r' L' U' s5 mx' pL' pU' => ?_⟩
    obtain ⟨z1, z2, z3⟩ := cond pL' pU'
    refine ⟨_, rfl, r', pr, U'.length, rowsOf L' U', rfl, hp, mx', rowsOf_wid, z1, z2, z3, fun H6 r2 s6 rk2 => ?_⟩
    exact ⟨_, _, rfl, rfl, q H6 r1 r2 ((sB.trans s5).trans s6) hr1 (rank_conv fc pL' pU' rk2)⟩

def spHolesMod (C : Addr) : Sp := fun vs H Q _ => ∃ (s d : Addr) (F : List Fa) (n : Nat) (p : Int), vs = [.ref s, .int n, .int p] ∧ Shp C H s d F ∧ Pr p ∧ n ≤ 7 ∧
  ∀ H' (r1 r2 : Nat), Same H H' → RkF p F n r1 → RkF p F (n + 1) r2 → Q (.int ((sAt F (n + 1)).length - r1 - r2)) H'
abbrev n_holes_mod : List Str := ["shape", "degree", "prime"]
theorem sc_holes_mod : FnScope n_holes_mod ["shape", "degree", "prime"] (defScope (top 46)) := ⟨rfl, rfl, rfl, by decide +kernel, rfl, by decide +kernel, by decide +kernel⟩
theorem ok_holes_mod (D : Def K mg "holes_mod" (top 46)) (c1 : Cal P w K mg base "need_complex" 1 ["value"] (spNeedComplex C)) (c2 : Cal P w K mg base "need_degree" 3 ["degree", "least"] spNeedDegree)
    (c3 : Cal P w K mg base "need_prime" 2 ["prime"] spNeedPrime) (c4 : Cal P w K mg base "holes_in" 4 ["shape", "degree", "prime"] (spHolesIn C)) : Cal P w K mg base "holes_mod" 5 ["shape", "degree", "prime"] (spHolesMod C) := by
  obtain ⟨f1, fd1, G_need_complex, g_need_complex, k_need_complex, b_need_complex⟩ := c1.ex
  obtain ⟨f2, fd2, G_need_degree, g_need_degree, k_need_degree, b_need_degree⟩ := c2.ex
  obtain ⟨f3, fd3, G_need_prime, g_need_prime, k_need_prime, b_need_prime⟩ := c3.ex
  obtain ⟨f4, fd4, G_holes_in, g_holes_in, k_holes_in, b_holes_in⟩ := c4.ex
  refine D.ok sc_holes_mod (fun vs H Q E h => ?_) (fun _ _ _ _ _ _ us hl => match us, hl with | [_, _, _], _ => rfl) (fun f cdv A outer s H vs Q E hr h => ?_)
  · obtain ⟨p, d, F, n, pr, rfl, _⟩ := h
    rfl
  · obtain ⟨p, d, F, n, pr, rfl, sh, hp, hn, q⟩ := h
    obtain ⟨⟨dx, fs, hp', hfs⟩, hF⟩ := id sh
    have hr1 : Room 1 _ := hr.mono (by decide)
    have hr2 : Room 2 _ := hr.mono (by decide)
    have hr3 : Room 3 _ := hr.mono (by decide)
    refine ⟨_, pss_cons (ps_expr (pe_call G_need_complex hr1 (by rfl) g_need_complex k_need_complex b_need_complex .nil pass0 (pa_cons (pv 0) pa_nil)))
      (pss_cons (ps_expr (pe_call G_need_degree hr3 (by rfl) g_need_degree k_need_degree b_need_degree .nil pass0 (pa_cons (pv 1) (pa_cons (pe_un un_neg pe_int) pa_nil))))
      (pss_cons (ps_expr (pe_call G_need_prime hr2 (by rfl) g_need_prime k_need_prime b_need_prime .nil pass0 (pa_cons (pv 2) pa_nil)))
      (pss_one (ps_ret (pe_call G_holes_in hr (by rfl) g_holes_in k_holes_in b_holes_in .nil pass0 (pa_cons (pv 0) (pa_cons (pv 1) (pa_cons (pv 2) pa_nil)))))))), ?_⟩
    refine ⟨_, rfl, p, dx, fs, rfl, hp', ?_⟩
    refine ⟨_, rfl, _, rfl, _, _, rfl, by omega, by omega, ?_⟩
    refine ⟨_, rfl, pr, rfl, hp, ?_⟩
    exact ⟨_, rfl, _, rfl, _, rfl, p, d, F, n, pr, rfl, sh, hp, q⟩
end
end K96

/-! The draws: taken, pick. -/
namespace K96
open PySem PySem.Spec PyProof.Rows L2

theorem seq_but {K : PySem.W.Frag} {H H' : Hp} {a D : Addr} {xs : List V} (h : SqL K H a xs) (ha : a ≠ D) (s : But D H H') : SqL K H' a xs := by
  rcases h with (h | ⟨o, h⟩) | h
  · exact .inl (.inl (s _ _ ha h))
  · exact .inl (.inr ⟨o, s _ _ ha h⟩)
  · exact .inr h
/-- the row of draws at R: the script's address, the turn, the mixed number, what is left of a cell -/
def Rw (H : Hp) (R a : Addr) : Prop := ∃ c m r : Int, H R = some (.lst [.ref a, .int c, .int m, .int r]) ∧ 0 ≤ c ∧ 0 ≤ m ∧ m < 2147483647
/-- the script stands at a, whatever becomes of the row -/
def Scr (K : PySem.W.Frag) (H : Hp) (R a : Addr) : Prop := ∃ ns : List Int, ∀ H', But R H H' → SqL K H' a (ns.map V.int)
theorem Scr.but {K : PySem.W.Frag} {H H' : Hp} {R a : Addr} (h : Scr K H R a) (s : But R H H') : Scr K H' R a := ⟨h.choose, fun H2 b => h.choose_spec H2 (s.trans b)⟩
theorem Rw.same {H H' : Hp} {R a : Addr} (h : Rw H R a) (s : Same H H') : Rw H' R a := by
  obtain ⟨c, m, r, h1, h2⟩ := h
  exact ⟨c, m, r, s _ _ h1, h2⟩
theorem Rw.off {H : Hp} {R a l : Addr} {o : HO} (h : Rw H R a) (hl : l ≠ R) : Rw (upd H l o) R a := by
  obtain ⟨c, m, r, h1, h2⟩ := h
  exact ⟨c, m, r, by rw [upd_ne (Ne.symm hl)]; exact h1, h2⟩
theorem Rw.ne {H : Hp} {R a l : Addr} (h : Rw H R a) (hl : H l = none) : l ≠ R := by
  obtain ⟨c, m, r, h1, h2⟩ := h
  rintro rfl
  rw [h1] at hl
  cases hl
theorem Rw.ne_tup {H : Hp} {R a b : Addr} {xs : List V} (h : Rw H R a) (hb : H b = some (.tup xs)) : b ≠ R := by
  obtain ⟨c, m, r, h1, h2⟩ := h
  rintro rfl
  rw [h1] at hb
  cases hb
theorem But.free {R : Addr} {H H' : Hp} {l : Addr} (s : But R H H') (hl : H' l = none) (hR : l ≠ R) : H l = none := s.gone hl hR
/-- what is new to H may be written -/
theorem But.new {R l : Addr} {H H' : Hp} {o : HO} (s : But R H H') (hl : H l = none) : But R H (L2.upd H' l o) := fun b u n e => by
  rw [upd_ne (ne_of_none e hl)]
  exact s b u n e
section
variable {P : Program} {w : World} {K : PySem.W.Frag} {mg : Str → Option Value} {base : Heap} {C : Addr}

def spTaken (K : PySem.W.Frag) : Sp := fun vs H Q _ => ∃ (R a : Addr) (many : Int), vs = [.ref R, .int many] ∧ Rw H R a ∧ Scr K H R a ∧ 1 ≤ many ∧ many ≤ 1000 ∧
  ∀ H' z, But R H H' → Rw H' R a → 0 ≤ z → z < many → Q (.int z) H'
abbrev n_taken : List Str := ["_law_row", "_law_many", "_law_found", "_law_cell"]
theorem sc_taken : FnScope n_taken ["_law_row", "_law_many"] (defScope (top 48)) := ⟨rfl, rfl, rfl, by decide +kernel, rfl, by decide +kernel, by decide +kernel⟩
theorem ok_taken (N : Nm mg) (D : Def K mg "_law_taken" (top 48)) : Cal P w K mg base "_law_taken" 1 ["_law_row", "_law_many"] (spTaken K) := by
  refine D.ok sc_taken (fun vs H Q E h => ?_) (fun _ _ _ _ _ _ us hl => match us, hl with | [_, _], _ => rfl) (fun f cdv A outer s H vs Q E hr h => ?_)
  · obtain ⟨R, a, many, rfl, _⟩ := h
    rfl
  · obtain ⟨R, a, many, rfl, ⟨c, m, r, hR, hc, hm0, hm1⟩, ⟨ns, hS⟩, h1, h2, q⟩ := h
    refine ⟨_, pss_cons (ps_if (pt_cmpR op_gt (pe_ix ix_list (pv 0) pe_int (fun _ _ => rfl)) pe_int (nomark _)) (pss_cons (ps_set (i := 2) sc_taken.nd rfl (Or.inl rfl) (pe_op op_mod (pe_callTy call_int1 (by rfl) N.int (by decide +kernel) (pa_cons (pe_ix ix_list (pv 0) pe_int (fun _ _ => rfl)) pa_nil)) (pv 1)))
      (pss_cons (ps_asg (pe_op op_fdiv (pe_ix ix_list (pv 0) pe_int (fun _ _ => rfl)) (pv 1)) (pg_sub (pv 0) pe_int set_list))
      (pss_one (ps_ret (pv 2))))) pss_nil)
      (pss_cons (ps_asg (pe_op op_add (pe_ix ix_list (pv 0) pe_int (fun _ _ => rfl)) pe_int) (pg_sub (pv 0) pe_int set_list))
      (pss_cons (ps_if (pt_cmpR op_gt (pe_ix ix_list (pv 0) pe_int (fun _ _ => rfl)) (pe_callB call_len_seq (by rfl) N.len PySem.boot_len (pa_cons (pe_ix ix_list (pv 0) pe_int (fun _ _ => rfl)) pa_nil)) (nomark _)) (pss_cons (ps_asg (pe_op op_mod (pe_callTy call_int1 (by rfl) N.int (by decide +kernel) (pa_cons (pe_op op_add (pe_op op_mul (pe_ix ix_list (pv 0) pe_int (fun _ _ => rfl)) pe_int) pe_int) pa_nil)) pe_int) (pg_sub (pv 0) pe_int set_list))
      (pss_one (ps_ret (pe_op op_mod (pe_callTy call_int1 (by rfl) N.int (by decide +kernel) (pa_cons (pe_op op_fdiv (pe_ix ix_list (pv 0) pe_int (fun _ _ => rfl)) pe_int) pa_nil)) (pv 1))))) pss_nil)
      (pss_cons (ps_set (i := 3) sc_taken.nd rfl (Or.inl rfl) (pe_ix ix_list (pe_ix ix_list (pv 0) pe_int (fun _ _ => rfl)) (pe_op op_sub (pe_ix ix_list (pv 0) pe_int (fun _ _ => rfl)) pe_int) (fun _ _ => rfl)))
      (pss_cons (ps_asg (pe_op op_mod (pe_callTy call_int1 (by rfl) N.int (by decide +kernel) (pa_cons (pe_op op_add (pe_op op_add (pe_op op_mul (pe_ix ix_list (pv 0) pe_int (fun _ _ => rfl)) pe_int) (pv 3)) pe_int) pa_nil)) pe_int) (pg_sub (pv 0) pe_int set_list))
      (pss_cons (ps_if (pt_cmpR op_ge (pv 3) (pe_op op_pow pe_int pe_int) (nomark _)) (pss_one (ps_asg (pe_op op_fdiv (pv 3) (pv 1)) (pg_sub (pv 0) pe_int set_list))) pss_nil)
      (pss_one (ps_ret (pe_op op_mod (pe_callTy call_int1 (by rfl) N.int (by decide +kernel) (pa_cons (pv 3) pa_nil)) (pv 1))))))))), ?_⟩
    have put : ∀ {H' : Hp} {c' m' r' : Int}, But R H H' → 0 ≤ c' → 0 ≤ m' → m' < 2147483647 → But R H (upd H' R (.lst [.ref a, .int c', .int m', .int r'])) ∧ Rw (upd H' R (.lst [.ref a, .int c', .int m', .int r'])) R a := fun {H' c' m' r'} b hc hm0 hm1 => by
      have b2 := b.trans (But.upd (o := .lst [.ref a, .int c', .int m', .int r']))
      exact ⟨b2, c', m', r', upd_same, hc, hm0, hm1⟩
    have mod7 : ∀ x : Int, 0 ≤ x % many ∧ x % many < many := fun x => ⟨Int.emod_nonneg x (by omega), Int.emod_lt_of_pos x (by omega)⟩
    have modM : ∀ x : Int, 0 ≤ x % 2147483647 ∧ x % 2147483647 < 2147483647 := fun x => ⟨Int.emod_nonneg x (by decide), Int.emod_lt_of_pos x (by decide)⟩
    -- if _law_row[3] > 0
    refine ⟨_, rfl, R, _, ((3 : Nat) : Int), .int r, rfl, rfl, SqL.of hR, atI_nat rfl, _, _, rfl, rfl, _, rfl, ?_⟩
    by_cases hr0 : 0 < r
    · refine ifT (decide_eq_true hr0) ?_
      refine ⟨_, rfl, R, _, ((3 : Nat) : Int), .int r, rfl, rfl, SqL.of hR, atI_nat rfl, .inl ⟨r, rfl, _, rfl, _, _, rfl, rfl, (by show (0 : Int) < many; omega), ?_⟩⟩
      refine ⟨_, rfl, R, _, ((3 : Nat) : Int), .int r, rfl, rfl, SqL.of hR, atI_nat rfl, _, rfl, _, _, rfl, rfl, ⟨by omega, by omega⟩, ?_⟩
      refine ⟨_, rfl, R, _, ((3 : Nat) : Int), 3, rfl, rfl, hR, ixn_nat (Nat.le_of_ble_eq_true rfl), ?_⟩
      obtain ⟨b2, rw2⟩ := put (r' := r / many) (But.of_same (Same.refl H)) hc hm0 hm1
      exact ⟨_, rfl, q _ _ b2 rw2 (mod7 r).1 (mod7 r).2⟩
    refine ifF (decide_eq_false hr0) ?_
    -- _law_row[1] = _law_row[1] + 1
    refine ⟨_, rfl, R, _, ((1 : Nat) : Int), .int c, rfl, rfl, SqL.of hR, atI_nat rfl, _, _, rfl, rfl, ?_⟩
    refine ⟨_, rfl, R, _, ((1 : Nat) : Int), 1, rfl, rfl, hR, ixn_nat (Nat.le_of_ble_eq_true rfl), ?_⟩
    have hR2 : upd H R (.lst [.ref a, .int (c + 1), .int m, .int r]) R = some (.lst [.ref a, .int (c + 1), .int m, .int r]) := upd_same
    have b2 : But R H (upd H R (.lst [.ref a, .int (c + 1), .int m, .int r])) := But.upd
    have hS2 := hS _ b2
    -- if _law_row[1] > len(_law_row[0])
    refine ⟨_, rfl, R, _, ((1 : Nat) : Int), .int (c + 1), rfl, rfl, SqL.of hR2, atI_nat rfl, ?_⟩
    refine ⟨_, rfl, R, _, ((0 : Nat) : Int), .ref a, rfl, rfl, SqL.of hR2, atI_nat rfl, a, _, rfl, .inl hS2, _, _, rfl, rfl, _, rfl, ?_⟩
    by_cases hlen : ((ns.map V.int).length : Int) < c + 1
    · refine ifT (decide_eq_true hlen) ?_
      refine ⟨_, rfl, R, _, ((2 : Nat) : Int), .int m, rfl, rfl, SqL.of hR2, atI_nat rfl, _, _, rfl, rfl, .inr ⟨by decide, by decide⟩, _, _, rfl, rfl, .inl ⟨_, rfl, _, _, rfl, rfl, (by show (0 : Int) < 2147483647; decide), ?_⟩⟩
      refine ⟨_, rfl, R, _, ((2 : Nat) : Int), 2, rfl, rfl, hR2, ixn_nat (Nat.le_of_ble_eq_true rfl), ?_⟩
      obtain ⟨b3, rw3⟩ := put (c' := c + 1) (m' := (m * 48271 + 11) % 2147483647) (r' := r) b2 (by omega) (modM _).1 (modM _).2
      refine ⟨_, rfl, R, _, ((2 : Nat) : Int), .int ((m * 48271 + 11) % 2147483647), rfl, rfl, SqL.of upd_same, atI_nat rfl, _, _, rfl, rfl, ⟨by decide, by decide⟩, .inl ⟨_, rfl, _, rfl, _, _, rfl, rfl, (by show (0 : Int) < many; omega), ?_⟩⟩
      exact q _ _ b3 rw3 (mod7 _).1 (mod7 _).2
    refine ifF (decide_eq_false hlen) ?_
    rw [List.length_map] at hlen
    -- _law_cell
    obtain ⟨x, hx⟩ : ∃ x, ns[c.toNat]? = some x := ⟨_, List.getElem?_eq_getElem (by omega)⟩
    have hxV : (ns.map V.int)[c.toNat]? = some (.int x) := by rw [List.getElem?_map, hx]; rfl
    refine ⟨_, rfl, R, _, ((0 : Nat) : Int), .ref a, rfl, rfl, SqL.of hR2, atI_nat rfl, _, rfl, R, _, ((1 : Nat) : Int), .int (c + 1), rfl, rfl, SqL.of hR2, atI_nat rfl, _, _, rfl, rfl, a, _, (c.toNat : Int), .int x, rfl, ?_, hS2, atI_nat hxV, ?_⟩
    · show V.int (c + 1 - 1) = V.int (c.toNat : Int)
      congr 1
      omega
    refine ⟨_, rfl, R, _, ((2 : Nat) : Int), .int m, rfl, rfl, SqL.of hR2, atI_nat rfl, _, _, rfl, rfl, .inr ⟨by decide, by decide⟩, _, rfl, _, _, rfl, rfl, _, _, rfl, rfl, .inl ⟨_, rfl, _, _, rfl, rfl, (by show (0 : Int) < 2147483647; decide), ?_⟩⟩
    refine ⟨_, rfl, R, _, ((2 : Nat) : Int), 2, rfl, rfl, hR2, ixn_nat (Nat.le_of_ble_eq_true rfl), ?_⟩
    obtain ⟨b3, rw3⟩ := put (c' := c + 1) (m' := (m * 48271 + x + 11) % 2147483647) (r' := r) b2 (by omega) (modM _).1 (modM _).2
    -- if _law_cell >= 10 ** 18
    refine ⟨_, rfl, _, _, rfl, rfl, ⟨by decide, by decide, by decide⟩, _, _, rfl, rfl, _, rfl, ?_⟩
    refine ite2 (fun _ => ?_) (fun _ => ?_)
    · refine ⟨_, rfl, _, rfl, _, _, rfl, rfl, ⟨by omega, by omega⟩, ?_⟩
      refine ⟨_, rfl, R, _, ((3 : Nat) : Int), 3, rfl, rfl, upd_same, ixn_nat (Nat.le_of_ble_eq_true rfl), ?_⟩
      obtain ⟨b4, rw4⟩ := put (c' := c + 1) (m' := (m * 48271 + x + 11) % 2147483647) (r' := x / many) b3 (by omega) (modM _).1 (modM _).2
      refine ⟨_, rfl, .inl ⟨_, rfl, _, rfl, _, _, rfl, rfl, (by show (0 : Int) < many; omega), ?_⟩⟩
      exact q _ _ b4 rw4 (mod7 _).1 (mod7 _).2
    · refine ⟨_, rfl, .inl ⟨_, rfl, _, rfl, _, _, rfl, rfl, (by show (0 : Int) < many; omega), ?_⟩⟩
      exact q _ _ b3 rw3 (mod7 _).1 (mod7 _).2

/-- pick: one of the things of a list -/
def spPick (K : PySem.W.Frag) : Sp := fun vs H Q _ => ∃ (R a l : Addr) (xs : List V), vs = [.ref R, .ref l] ∧ Rw H R a ∧ Scr K H R a ∧ H l = some (.lst xs) ∧ l ≠ R ∧ 1 ≤ xs.length ∧ xs.length ≤ 1000 ∧
  ∀ H' v, But R H H' → Rw H' R a → v ∈ xs → Q v H'
abbrev n_pick : List Str := ["_law_row", "_law_things"]
theorem sc_pick : FnScope n_pick ["_law_row", "_law_things"] (defScope (top 49)) := ⟨rfl, rfl, rfl, by decide +kernel, rfl, by decide +kernel, by decide +kernel⟩
theorem ok_pick (N : Nm mg) (D : Def K mg "_law_pick" (top 49)) (c1 : Cal P w K mg base "_law_taken" 1 ["_law_row", "_law_many"] (spTaken K)) : Cal P w K mg base "_law_pick" 2 ["_law_row", "_law_things"] (spPick K) := by
  obtain ⟨f1, fd1, G_taken, g_taken, k_taken, b_taken⟩ := c1.ex
  refine D.ok sc_pick (fun vs H Q E h => ?_) (fun _ _ _ _ _ _ us hl => match us, hl with | [_, _], _ => rfl) (fun f cdv A outer s H vs Q E hr h => ?_)
  · obtain ⟨R, a, l, xs, rfl, _⟩ := h
    rfl
  · obtain ⟨R, a, l, xs, rfl, rw, sc, hl, hlR, h1, h2, q⟩ := h
    refine ⟨_, pss_one (ps_ret (pe_ix ix_list (pv 1) (pe_call G_taken hr (by rfl) g_taken k_taken b_taken .nil pass0 (pa_cons (pv 0) (pa_cons (pe_callB call_len_seq (by rfl) N.len PySem.boot_len (pa_cons (pv 1) pa_nil)) pa_nil))) (fun _ _ => rfl))), ?_⟩
    refine ⟨_, rfl, _, rfl, _, rfl, l, xs, rfl, .inl (SqL.of hl), R, a, _, rfl, rw, sc, by omega, by omega, fun H2 z b2 rw2 z0 z1 => ?_⟩
    obtain ⟨v, hv⟩ : ∃ v, xs[z.toNat]? = some v := ⟨_, List.getElem?_eq_getElem (by omega)⟩
    exact ⟨l, xs, (z.toNat : Int), v, rfl, by rw [Int.toNat_of_nonneg z0], SqL.of (b2 _ _ hlR hl), atI_nat hv, q H2 v b2 rw2 (List.mem_of_getElem? hv)⟩
end
end K96

/-! _law_simplex. -/
namespace K96
open PySem PySem.Spec PyProof.Rows L2

/-- one to three vertices from 0 to 6, ascending -/
structure Sx (x : Fa) : Prop where
  ne : 1 ≤ x.length
  len : x.length ≤ 3
  lo : ∀ v ∈ x, 0 ≤ v
  hi : ∀ v ∈ x, v ≤ 6
  up : x.Pairwise (· < ·)
theorem strict_of {x : List Int} (h : x.Pairwise (· ≤ ·)) (hn : x.Nodup) : x.Pairwise (· < ·) := by
  refine (h.and hn).imp fun {a b} q => ?_
  have := q.1
  have := q.2
  omega
theorem perm_v7 {x : List Int} {l : List Int} (h : (x ++ l).Perm v7) : x.Nodup ∧ (∀ v ∈ x, 0 ≤ v) ∧ ∀ v ∈ x, v ≤ 6 := by
  have hv : ∀ v ∈ v7, 0 ≤ v ∧ v ≤ 6 := by decide
  have hn : (x ++ l).Nodup := h.nodup_iff.mpr (by decide)
  exact ⟨(List.nodup_append.mp hn).1, fun v hx => (hv v (h.subset (List.mem_append_left _ hx))).1, fun v hx => (hv v (h.subset (List.mem_append_left _ hx))).2⟩
theorem erase_perm {l : List Int} {k : Nat} {y : Int} (h : l[k]? = some y) (x : List Int) : ((x ++ [y]) ++ l.eraseIdx k).Perm (x ++ l) := by
  obtain ⟨hk, e⟩ := List.getElem?_eq_some_iff.mp h
  rw [List.append_assoc]
  refine List.Perm.append_left x ?_
  rw [List.eraseIdx_eq_take_drop_succ]
  have e2 : l = l.take k ++ y :: l.drop (k + 1) := by
    conv => lhs; rw [← List.take_append_drop k l, List.drop_eq_getElem_cons hk, e]
  conv => rhs; rw [e2]
  exact (List.perm_middle (l₁ := l.take k) (a := y) (l₂ := l.drop (k + 1))).symm
theorem seq_ix {n j : Nat} (h : j < n) : seqIndex? (j : Int) n = some j := (ixN_seq (ixn_nat h)).1
section
variable {P : Program} {w : World} {K : PySem.W.Frag} {mg : Str → Option Value} {base : Heap} {C : Addr}

def spSimplex (K : PySem.W.Frag) : Sp := fun vs H Q _ => ∃ (R a : Addr), vs = [.ref R, .int 7, .int 3] ∧ Rw H R a ∧ Scr K H R a ∧ ∀ H' t x, But R H H' → Rw H' R a → TI H' t x → Sx x → Q (.ref t) H'
abbrev n_simplex : List Str := ["_law_row", "_law_most", "_law_size", "_law_left", "_law_found", "_law_turn"]
theorem sc_simplex : FnScope n_simplex ["_law_row", "_law_most", "_law_size"] (defScope (top 50)) := ⟨rfl, rfl, rfl, by decide +kernel, rfl, by decide +kernel, by decide +kernel⟩
theorem ok_simplex (N : Nm mg) (D : Def K mg "_law_simplex" (top 50)) (c1 : Cal P w K mg base "_law_taken" 1 ["_law_row", "_law_many"] (spTaken K)) : Cal P w K mg base "_law_simplex" 2 ["_law_row", "_law_most", "_law_size"] (spSimplex K) := by
  obtain ⟨f1, fd1, G_taken, g_taken, k_taken, b_taken⟩ := c1.ex
  refine D.ok sc_simplex (fun vs H Q E h => ?_) (fun _ _ _ _ _ _ us hl => match us, hl with | [_, _, _], _ => rfl) (fun f cdv A outer s H vs Q E hr h => ?_)
  · obtain ⟨R, a, rfl, _⟩ := h
    rfl
  · obtain ⟨R, a, rfl, rw0, sc, q⟩ := h
    refine ⟨_, pss_cons (ps_par (i := 3) (j := 4) (by rfl) sc_simplex.nd rfl rfl (by decide) rfl rfl (pa_cons (pe_listRg rfl (by rfl) N.list (prg_1 (by rfl) N.range (pv 1))) (pa_cons (pe_lst pa_nil) pa_nil)) (by rfl))
      (pss_cons (ps_for PassesOwn.never rfl (pi_range1 (by rfl) N.range (pa_cons (pe_callB (call_min2 rfl) (by rfl) N.min (by decide +kernel) (pa_cons (pv 1) (pa_cons (pe_op op_add pe_int (pe_call G_taken hr (by rfl) g_taken k_taken b_taken .nil pass0 (pa_cons (pv 0) (pa_cons (pv 2) pa_nil)))) pa_nil))) pa_nil)) (pg_name (i := 5) sc_simplex.nd rfl (Or.inl rfl))
      (pss_one (ps_expr (pe_bm PySem.F.plainAttrs_list PySem.F.slot_list_append PySem.F.type_list_append mt_append (pv 4) (pa_cons (pe_bm PySem.F.plainAttrs_list PySem.F.slot_list_pop PySem.F.type_list_pop mt_popAt (pv 3) (pa_cons (pe_call G_taken hr (by rfl) g_taken k_taken b_taken .nil pass0 (pa_cons (pv 0) (pa_cons (pe_callB call_len_seq (by rfl) N.len PySem.boot_len (pa_cons (pv 3) pa_nil)) pa_nil))) pa_nil)) pa_nil)))))
      (pss_one (ps_ret (pe_callTy call_tuple_of (by rfl) N.tuple (by decide +kernel) (pa_cons (pe_callB cr_sortedI (by rfl) N.sorted (by decide +kernel) (pa_cons (pv 4) pa_nil)) pa_nil))))), ?_⟩
    -- left, found
    refine ⟨_, rfl, _, rfl, RgOk.of_le (by omega) (by omega) (by omega) (by omega), fun l hl => ⟨by simp [sizeLine_eq], fun fo hfo => ?_⟩⟩
    have nlf : l ≠ fo := by rintro rfl; rw [upd_same] at hfo; cases hfo
    have s0 : Same H (upd (upd H l (.lst (rgV 0 7))) fo (.lst [])) := Same.upd' (same_upd hl) hfo
    have hfoH : H fo = none := (same_upd hl).free hfo
    have nlR := rw0.ne hl
    have nfR := rw0.ne hfoH
    have hl1 : upd (upd H l (.lst (rgV 0 7))) fo (.lst []) l = some (.lst (v7.map V.int)) := by rw [upd_ne nlf, upd_same]; rfl
    have hf1 : upd (upd H l (.lst (rgV 0 7))) fo (.lst []) fo = some (.lst []) := upd_same
    generalize upd (upd H l (.lst (rgV 0 7))) fo (.lst []) = H1 at s0 hl1 hf1
    -- for turn in range(min(..))
    refine ⟨_, _, rfl, ?_⟩
    refine ⟨_, rfl, _, rfl, _, rfl, R, a, 3, rfl, rw0.same s0, sc.but (But.of_same s0), by omega, by omega, fun H2 z b2 rw2 z0 z3 => ?_⟩
    refine ⟨_, _, rfl, rfl, _, _, rfl, ?_⟩
    rw [if_pos (by omega)]
    refine ⟨_, rfl, by omega, by omega, ?_⟩
    have bA := (But.of_same s0).trans b2
    refine for_it walk_range (fun i σ H3 => ∃ (u : Option V) (left found : List Int), σ = [some (.ref R), some (.int 7), some (.int 3), some (.ref l), some (.ref fo), u] ∧ But R H H3 ∧ Rw H3 R a ∧ H3 l = some (.lst (left.map V.int)) ∧ H3 fo = some (.lst (found.map V.int)) ∧
        (found ++ left).Perm v7 ∧ found.length = i)
      ⟨none, v7, [], rfl, bA, rw2, b2 _ _ nlR hl1, b2 _ _ nfR hf1, List.Perm.refl _, rfl⟩ (fun _ _ _ _ _ => trivial) ?_ ?_
    · rintro i v _ _ H3 hi ⟨u, left, found, rfl, b3, rw3, hl3, hf3, pm, hlen⟩ ⟨rfl, rfl⟩
      have hll : left.length + i = 7 := by
        have := pm.length_eq
        rw [List.length_append, hlen] at this
        have e7 : v7.length = 7 := rfl
        omega
      refine ⟨_, rfl, .inl ⟨rfl, _, SqL.of hf3⟩, _, rfl, .inl ⟨rfl, _, SqL.of hl3⟩, _, rfl, _, rfl, l, _, rfl, .inl (SqL.of hl3), R, a, _, rfl, rw3, sc.but b3, by rw [List.length_map]; omega, by rw [List.length_map]; omega, fun H4 y b4 rw4 y0 y1 => ?_⟩
      rw [List.length_map] at y1
      obtain ⟨yk, hyk⟩ : ∃ yk : Nat, y = yk := ⟨y.toNat, by omega⟩
      subst hyk
      obtain ⟨yv, hyv⟩ : ∃ yv, left[yk]? = some yv := ⟨_, List.getElem?_eq_getElem (by omega)⟩
      have hl4 := b4 _ _ nlR hl3
      have hf4 := b4 _ _ nfR hf3
      have b4' := b3.trans b4
      refine ⟨l, _, (yk : Int), yk, .int yv, rfl, rfl, hl4, by omega, by omega, seq_ix (by rw [List.length_map]; omega), by rw [List.getElem?_map, hyv]; rfl, ?_⟩
      refine ⟨fo, found.map V.int, .int yv, rfl, rfl, by rw [upd_ne (Ne.symm nlf)]; exact hf4, by rw [List.length_map]; exact small_line (by omega), ?_⟩
      refine ⟨_, left.eraseIdx yk, found ++ [yv], rfl, (b4'.new hl).new hfoH, (rw4.off nlR).off nfR, ?_, ?_, ?_, ?_⟩
      · rw [upd_ne nlf, upd_same]
        congr 2
        rw [List.eraseIdx_eq_take_drop_succ, List.eraseIdx_eq_take_drop_succ, List.map_append, List.map_take, List.map_drop]
      · rw [upd_same, List.map_append]; rfl
      · exact (erase_perm hyv found).trans pm
      · rw [List.length_append, hlen]; rfl
    · rintro _ H3 ⟨u, left, found, rfl, b3, rw3, hl3, hf3, pm, hlen⟩
      obtain ⟨hn, h0, h6⟩ := perm_v7 pm
      refine ⟨_, rfl, fo, found, rfl, SqL.of hf3, fun ns p pp asc hp => ?_⟩
      refine ⟨p, _, rfl, .inl ⟨SqL.of upd_same, fun t ht => ?_⟩⟩
      have hpR := rw3.ne hp
      have htR := (rw3.off hpR).ne ht
      refine q _ t ns ?_ ((rw3.off hpR).off htR) upd_same ⟨by rw [pp.length_eq]; omega, by rw [pp.length_eq]; omega, fun v hv => h0 v (pp.subset hv), fun v hv => h6 v (pp.subset hv), strict_of asc (pp.nodup_iff.mpr hn)⟩
      exact b3.trans (But.of_same (Same.upd' (same_upd hp) ht))
end
end K96

/-! _law_simplices. -/
namespace K96
open PySem PySem.Spec PyProof.Rows L2

/-- at most 14 of them -/
structure Sxs (S : List Fa) : Prop where
  few : S.length ≤ 14
  all : ∀ x ∈ S, Sx x
theorem Sx.iff (x : Fa) : (1 ≤ x.length ∧ x.length ≤ 3 ∧ (∀ v ∈ x, 0 ≤ v) ∧ (∀ v ∈ x, v ≤ 6) ∧ x.Pairwise (· < ·)) ↔ Sx x :=
  ⟨fun ⟨a, b, c, d, e⟩ => ⟨a, b, c, d, e⟩, fun h => ⟨h.ne, h.len, h.lo, h.hi, h.up⟩⟩
instance (x : Fa) : Decidable (Sx x) := decidable_of_iff _ (Sx.iff x)
/-- the numbers below m without i -/
def fcs (m i : Nat) : Fa := ((List.range m).filter fun k : Nat => !decide (k = i)).map fun k : Nat => (k : Int)
theorem fcs_ok : ∀ m, m < 5 → 2 ≤ m → ∀ i, i < m → Sx (fcs m i) := by decide +kernel
theorem walk_r0 {n : Nat} : Walk (Itr 0 n) n (fun _ => True) (YFn fun i => .int (i : Nat)) := by
  have h := walk_range (lo := 0) (n := n)
  simpa using h
theorem two_sorted {a b : Int} {x : List Int} (h : x.Perm [a, b]) (asc : x.Pairwise (· ≤ ·)) (hne : a ≠ b) (ha : 0 ≤ a ∧ a ≤ 6) (hb : 0 ≤ b ∧ b ≤ 6) : Sx x := by
  refine ⟨by rw [h.length_eq]; simp, by rw [h.length_eq]; simp, fun v hv => ?_, fun v hv => ?_, strict_of asc (h.nodup_iff.mpr (by simpa using hne))⟩
  · rcases List.mem_cons.mp (h.subset hv) with e | e
    · omega
    · have := List.mem_singleton.mp e; omega
  · rcases List.mem_cons.mp (h.subset hv) with e | e
    · omega
    · have := List.mem_singleton.mp e; omega
theorem three_sorted {a b c : Int} {x : List Int} (h : x.Perm [a, b, c]) (asc : x.Pairwise (· ≤ ·)) (h1 : a ≠ b) (h2 : a ≠ c) (h3 : b ≠ c) (ha : 0 ≤ a ∧ a ≤ 6) (hb : 0 ≤ b ∧ b ≤ 6) (hc : 0 ≤ c ∧ c ≤ 6) : Sx x := by
  refine ⟨by rw [h.length_eq]; simp, by rw [h.length_eq]; simp, fun v hv => ?_, fun v hv => ?_, strict_of asc (h.nodup_iff.mpr (by simp [h1, h2, h3]))⟩
  · have := h.subset hv
    simp at this
    omega
  · have := h.subset hv
    simp at this
    omega
/-- triples of numbers, laid as tuples -/
def consT : List (Int × Int × Int) → TA
  | [] => tNil
  | z :: r => tCons (tTup (tCons (tC (.int z.1)) (tCons (tC (.int z.2.1)) (tCons (tC (.int z.2.2)) tNil)))) (consT r)
theorem consT_ok {σ : L2.St} : ∀ (L : List (Int × Int × Int)) {H : Hp} {Q : List V → Hp → Prop}, (∀ xs H', Same H H' → TVs H' xs (L.map fun z => [z.1, z.2.1, z.2.2]) → Q xs H') → consT L σ H Q
  | [], H, Q, h => h [] H (Same.refl H) .nil
  | z :: r, H, Q, h => by
    refine ⟨by simp [sizeLine_eq], fun t ht => ?_⟩
    refine consT_ok r fun xs H' s' tv => ?_
    exact h (.ref t :: xs) H' ((same_upd ht).trans s') (.cons ⟨t, rfl, s' _ _ upd_same⟩ tv)
section
variable {P : Program} {w : World} {K : PySem.W.Frag} {mg : Str → Option Value} {base : Heap} {C : Addr}

def spSimplices (K : PySem.W.Frag) : Sp := fun vs H Q _ => ∃ (R a : Addr), vs = [.ref R, .int 7, .int 3] ∧ Rw H R a ∧ Scr K H R a ∧ ∀ H' t xs S, But R H H' → Rw H' R a → H' t = some (.tup xs) → TVs H' xs S → Sxs S → Q (.ref t) H'
abbrev n_simplices : List Str := ["_law_row", "_law_most", "_law_size", "_law_way", "_law_many", "_law_found", "_law_at", "_law_vertex", "_law_turn"]
theorem sc_simplices : FnScope n_simplices ["_law_row", "_law_most", "_law_size"] (defScope (top 51)) := ⟨rfl, rfl, rfl, by decide +kernel, rfl, by decide +kernel, by decide +kernel⟩
theorem ok_simplices (N : Nm mg) (D : Def K mg "_law_simplices" (top 51)) (c1 : Cal P w K mg base "_law_taken" 1 ["_law_row", "_law_many"] (spTaken K))
    (c2 : Cal P w K mg base "_law_simplex" 2 ["_law_row", "_law_most", "_law_size"] (spSimplex K)) : Cal P w K mg base "_law_simplices" 3 ["_law_row", "_law_most", "_law_size"] (spSimplices K) := by
  obtain ⟨f1, fd1, G_taken, g_taken, k_taken, b_taken⟩ := c1.ex
  obtain ⟨f2, fd2, G_simplex, g_simplex, k_simplex, b_simplex⟩ := c2.ex
  refine D.ok sc_simplices (fun vs H Q E h => ?_) (fun _ _ _ _ _ _ us hl => match us, hl with | [_, _, _], _ => rfl) (fun f cdv A outer s H vs Q E hr h => ?_)
  · obtain ⟨R, a, rfl, _⟩ := h
    rfl
  · obtain ⟨R, a, rfl, rw0, sc, q⟩ := h
    have hr1 : Room 1 _ := hr.mono (by decide)
    refine ⟨_, pss_cons (ps_set (i := 3) sc_simplices.nd rfl (Or.inl rfl) (pe_call G_taken hr1 (by rfl) g_taken k_taken b_taken .nil pass0 (pa_cons (pv 0) (pa_cons pe_int pa_nil))))
      (pss_cons (ps_if (pt_cmpR op_eq (pv 3) pe_int (nomark _)) (pss_cons (ps_set (i := 4) sc_simplices.nd rfl (Or.inr rfl) (pe_op op_add pe_int (pe_call G_taken hr1 (by rfl) g_taken k_taken b_taken .nil pass0 (pa_cons (pv 0) (pa_cons (pe_callB (call_min2 rfl) (by rfl) N.min (by decide +kernel) (pa_cons (pe_op op_sub (pv 1) pe_int) (pa_cons (pv 2) pa_nil))) pa_nil)))))
      (pss_one (ps_ret (pe_callTy call_tuple_of (by rfl) N.tuple (by decide +kernel) (pa_cons (pe_lc (own := [("_law_at", 6)]) (g := gName 6) (tt := tYes) rfl sc_simplices.nd (pi_range1 (by rfl) N.range (pa_cons (pv 4) pa_nil)) (blkOk_by (N := n_simplices) (sc := defScope (top 51)) (by decide +kernel)) (fun _ _ _ _ _ => (pg_name (i := 6) sc_simplices.nd rfl (Or.inr rfl))) (fun _ _ _ _ _ => pts_nil) (fun _ _ _ _ _ => by exact (pe_callTy (call_tupleK (K := K) rfl) (by rfl) N.tuple (by decide +kernel) (pa_cons (by refine pe_lc (wi := iRng1 (tCons (tVar 4) tNil)) (tt := tTest (tOp rNe (tVar 7) (tVar 6))) (te := tVar 7) (hs := ?h8) (own := [("_law_vertex", 7)]) (g := gName 7) ?h1 ?h2 ?h3 ?h4 ?h5 ?h6 ?h7; (case h1 => rfl); (case h2 => exact sc_simplices.nd); (case h3 => exact (pi_range1 (by rfl) N.range (pa_cons (pv 4) pa_nil))); (case h4 => exact (blkOk_in (N := n_simplices) rfl (by decide +kernel))); (case h5 => exact (fun _ _ _ _ _ => (pg_name (i := 7) sc_simplices.nd rfl (Or.inl rfl)))); (case h6 => exact (fun _ _ _ _ _ => (pts_one (pt_cmpR op_ne (pv 7) (pv 6) (nomark _))))); (case h7 => exact (fun _ _ _ _ _ => (pv 7))); (case h8 => intro _; rfl)) pa_nil)))) pa_nil))))) pss_nil)
      (pss_cons (ps_if (PW.pt (pw_and (pt_cmpR op_eq (pv 3) pe_int (nomark _)) (pw_and (pt_cmpR op_gt (pv 1) pe_int (nomark _)) (pw_and1 (pt_cmpR op_gt (pv 2) pe_int (nomark _)))))) (pss_one (ps_ret (pe_tup (pa_cons (pe_tup (pa_cons pe_int (pa_cons pe_int (pa_cons pe_int pa_nil)))) (pa_cons (pe_tup (pa_cons pe_int (pa_cons pe_int (pa_cons pe_int pa_nil)))) (pa_cons (pe_tup (pa_cons pe_int (pa_cons pe_int (pa_cons pe_int pa_nil)))) (pa_cons (pe_tup (pa_cons pe_int (pa_cons pe_int (pa_cons pe_int pa_nil)))) (pa_cons (pe_tup (pa_cons pe_int (pa_cons pe_int (pa_cons pe_int pa_nil)))) (pa_cons (pe_tup (pa_cons pe_int (pa_cons pe_int (pa_cons pe_int pa_nil)))) (pa_cons (pe_tup (pa_cons pe_int (pa_cons pe_int (pa_cons pe_int pa_nil)))) (pa_cons (pe_tup (pa_cons pe_int (pa_cons pe_int (pa_cons pe_int pa_nil)))) (pa_cons (pe_tup (pa_cons pe_int (pa_cons pe_int (pa_cons pe_int pa_nil)))) (pa_cons (pe_tup (pa_cons pe_int (pa_cons pe_int (pa_cons pe_int pa_nil)))) pa_nil))))))))))))) pss_nil)
      (pss_cons (ps_if (PW.pt (pw_and (pt_cmpR op_eq (pv 3) pe_int (nomark _)) (pw_and (pt_cmpR op_gt (pv 1) pe_int (nomark _)) (pw_and1 (pt_cmpR op_gt (pv 2) pe_int (nomark _)))))) (pss_cons (ps_set (i := 5) sc_simplices.nd rfl (Or.inl rfl) (pe_lst pa_nil))
      (pss_cons (ps_for PassesOwn.never rfl (pi_range1 (by rfl) N.range (pa_cons pe_int pa_nil)) (pg_name (i := 6) sc_simplices.nd rfl (Or.inl rfl))
      (pss_cons (ps_expr (pe_bm PySem.F.plainAttrs_list PySem.F.slot_list_append PySem.F.type_list_append mt_append (pv 5) (pa_cons (pe_callTy call_tuple_of (by rfl) N.tuple (by decide +kernel) (pa_cons (pe_callB cr_sortedI (by rfl) N.sorted (by decide +kernel) (pa_cons (pe_lst (pa_cons (pv 6) (pa_cons (pe_op op_mod (pe_callTy call_int1 (by rfl) N.int (by decide +kernel) (pa_cons (pe_op op_add (pv 6) pe_int) pa_nil)) pe_int) (pa_cons (pe_op op_mod (pe_callTy call_int1 (by rfl) N.int (by decide +kernel) (pa_cons (pe_op op_add (pv 6) pe_int) pa_nil)) pe_int) pa_nil)))) pa_nil)) pa_nil)) pa_nil)))
      (pss_one (ps_expr (pe_bm PySem.F.plainAttrs_list PySem.F.slot_list_append PySem.F.type_list_append mt_append (pv 5) (pa_cons (pe_callTy call_tuple_of (by rfl) N.tuple (by decide +kernel) (pa_cons (pe_callB cr_sortedI (by rfl) N.sorted (by decide +kernel) (pa_cons (pe_lst (pa_cons (pv 6) (pa_cons (pe_op op_mod (pe_callTy call_int1 (by rfl) N.int (by decide +kernel) (pa_cons (pe_op op_add (pv 6) pe_int) pa_nil)) pe_int) (pa_cons (pe_op op_mod (pe_callTy call_int1 (by rfl) N.int (by decide +kernel) (pa_cons (pe_op op_add (pv 6) pe_int) pa_nil)) pe_int) pa_nil)))) pa_nil)) pa_nil)) pa_nil))))))
      (pss_one (ps_ret (pe_callTy call_tuple_of (by rfl) N.tuple (by decide +kernel) (pa_cons (pv 5) pa_nil)))))) pss_nil)
      (pss_cons (ps_if (PW.pt (pw_and (pt_cmpR op_eq (pv 3) pe_int (nomark _)) (pw_and (pt_cmpR op_gt (pv 1) pe_int (nomark _)) (pw_and1 (pt_cmpR op_gt (pv 2) pe_int (nomark _)))))) (pss_cons (ps_set (i := 4) sc_simplices.nd rfl (Or.inr rfl) (pe_op op_add pe_int (pe_call G_taken hr1 (by rfl) g_taken k_taken b_taken .nil pass0 (pa_cons (pv 0) (pa_cons (pe_op op_sub (pv 1) pe_int) pa_nil)))))
      (pss_one (ps_ret (pe_callTy call_tuple_of (by rfl) N.tuple (by decide +kernel) (pa_cons (pe_lc (own := [("_law_at", 6)]) (g := gName 6) (tt := tYes) rfl sc_simplices.nd (pi_range1 (by rfl) N.range (pa_cons (pv 4) pa_nil)) (blkOk_by (N := n_simplices) (sc := defScope (top 51)) (by decide +kernel)) (fun _ _ _ _ _ => (pg_name (i := 6) sc_simplices.nd rfl (Or.inl rfl))) (fun _ _ _ _ _ => pts_nil) (fun _ _ _ _ _ => by exact (pe_callTy (call_tupleK (K := K) rfl) (by rfl) N.tuple (by decide +kernel) (pa_cons (pe_callB (cr_sortIK (K := K) rfl) (by rfl) N.sorted (by decide +kernel) (pa_cons (pe_lst (pa_cons (pv 6) (pa_cons (pe_op op_mod (pe_callTy call_int1 (by rfl) N.int (by decide +kernel) (pa_cons (pe_op op_add (pv 6) pe_int) pa_nil)) (pv 4)) pa_nil))) pa_nil)) pa_nil)))) pa_nil))))) pss_nil)
      (pss_one (ps_ret (pe_callTy call_tuple_of (by rfl) N.tuple (by decide +kernel) (pa_cons (pe_lc (own := [("_law_turn", 8)]) (g := gName 8) (tt := tYes) rfl sc_simplices.nd (pi_range1 (by rfl) N.range (pa_cons (pe_call G_taken hr1 (by rfl) g_taken k_taken b_taken .nil pass0 (pa_cons (pv 0) (pa_cons pe_int pa_nil))) pa_nil)) (blkOk_by (N := n_simplices) (sc := defScope (top 51)) (by decide +kernel)) (fun _ _ _ _ _ => (pg_name (i := 8) sc_simplices.nd rfl (Or.inl rfl))) (fun _ _ _ _ _ => pts_nil) (fun _ _ _ _ _ => by exact (pe_call G_simplex hr (by rfl) g_simplex k_simplex b_simplex .nil pass0 (pa_cons (pv 0) (pa_cons (pv 1) (pa_cons (pv 2) pa_nil)))))) pa_nil)))))))), ?_⟩
    -- way
    refine ⟨_, rfl, R, a, 9, rfl, rw0, sc, by omega, by omega, fun H1 way b1 rw1 w0 w9 => ?_⟩
    have sc1 := sc.but b1
    -- the first way
    refine ⟨_, rfl, rfl, _, rfl, ?_⟩
    by_cases h0 : way = 0
    · refine ifT (decide_eq_true (congrArg V.int h0)) ?_
      refine ⟨_, rfl, _, rfl, _, _, rfl, rfl, _, rfl, _, _, rfl, R, a, _, rfl, rw1, sc1, by decide, by decide, fun H2 z b2 rw2 z0 z3 => ?_⟩
      have z3 : z < 3 := by simpa using z3
      have bA := b1.trans b2
      refine ⟨_, _, rfl, rfl, ?_⟩
      refine ⟨_, rfl, _, rfl, by omega, by omega, fun D1 hD1 => ?_⟩
      obtain ⟨m, hm⟩ : ∃ m, m = (2 + z).toNat := ⟨_, rfl⟩
      refine lc_it walk_r0 (GP H2 D1 (fun i acc H => ∃ L, TVs H acc L ∧ L = (List.range i).map fun k => fcs m k)) (gp_start hD1 ⟨[], .nil, rfl⟩) (fun _ _ _ _ => trivial) ?_ ?_
      · rintro i v _ H3 hi ⟨s3, acc, hD3, L, tacc, rfl⟩ ⟨rfl, rfl⟩
        refine ⟨rfl, _, rfl, _, rfl, by omega, by omega, fun D2 hD2 => ?_⟩
        have hla : acc.length = i := by rw [Paired.length tacc, List.length_map, List.length_range]
        refine lc_it walk_r0 (GP H3 D2 (fun j acc _ => acc = (((List.range j).filter fun k : Nat => !decide (k = i)).map fun k : Nat => (k : Int)).map V.int)) (gp_start hD2 rfl) (fun _ _ _ _ => trivial) ?_ ?_
        · rintro j v _ H4 hj ⟨s4, acc4, hD4, racc⟩ ⟨rfl, rfl⟩
          have hl4 : acc4.length ≤ 5 := by
            rw [racc, List.length_map, List.length_map]
            refine Nat.le_trans (List.length_filter_le ..) ?_
            rw [List.length_range]
            omega
          refine ⟨rfl, _, rfl, _, rfl, rfl, _, rfl, ?_⟩
          by_cases hji : j = i
          · refine ifF (by simp [hji]) (gp_skip s4 hD4 (Same.refl _) ?_)
            rw [racc, List.range_succ, List.filter_append]
            simp [hji]
          · refine ifT (by simp; omega) ⟨_, rfl, gp_grow off_pure hD2 s4 hD4 (Same.refl _) (small_line (by omega)) ?_⟩
            rw [racc, List.range_succ, List.filter_append]
            simp [hji]
        rintro H4 ⟨s4, acc4, hD4, racc⟩
        subst racc
        dsimp only [tNil]
        refine ⟨D2, _, rfl, .inl ⟨SqL.of hD4, fun t ht => ?_⟩⟩
        refine gp_grow off_tvs hD1 s3 hD3 (Same.upd' s4 ht) (small_line (by omega)) ⟨_, tvs_snoc (x := fcs m i) (tacc.same (Same.upd' s4 ht)) ⟨t, rfl, ?_⟩, ?_⟩
        · rw [hm]
          exact upd_same
        · rw [List.range_succ, List.map_append]; rfl
      · rintro H3 ⟨s3, acc, hD3, L, tacc, rfl⟩
        refine ⟨D1, acc, rfl, .inl ⟨SqL.of hD3, fun t ht => ?_⟩⟩
        have s4 := Same.upd' (o := .tup acc) s3 ht
        refine q _ t acc _ (bA.trans (But.of_same s4)) (rw2.same s4) upd_same (tacc.same (same_upd ht)) ⟨by rw [List.length_map, List.length_range]; omega, fun x hx => ?_⟩
        obtain ⟨i, hi, rfl⟩ := List.mem_map.mp hx
        have hi := List.mem_range.mp hi
        exact fcs_ok m (by omega) (by omega) i (by omega)
    refine ifF (decide_eq_false (fun z => h0 (V.int.inj z))) ?_
    -- the second way
    refine ⟨_, rfl, rfl, _, rfl, ?_⟩
    by_cases h1 : way = 1
    · refine ifT (decide_eq_true (congrArg V.int h1)) ?_
      refine ⟨_, rfl, _, _, rfl, rfl, _, rfl, ifT (by decide) ⟨_, rfl, _, _, rfl, rfl, _, rfl, ifT (by decide) ?_⟩⟩
      refine consT_ok [(0, 1, 2), (0, 1, 3), (0, 2, 4), (0, 3, 5), (0, 4, 5), (1, 2, 5), (1, 3, 4), (1, 4, 5), (2, 3, 4), (2, 3, 5)] fun xs H2 s2 tv => ?_
      have hxl := Paired.length tv
      refine ⟨by rw [hxl, sizeLine_eq]; decide, fun t ht => ?_⟩
      have s3 := Same.upd' (o := .tup xs) s2 ht
      exact q _ t xs _ (b1.trans (But.of_same s3)) (rw1.same s3) upd_same (tv.same (same_upd ht)) ⟨by decide, by decide⟩
    refine ifF (decide_eq_false (fun z => h1 (V.int.inj z))) ?_
    -- the third way
    refine ⟨_, rfl, rfl, _, rfl, ?_⟩
    by_cases h2 : way = 2
    · refine ifT (decide_eq_true (congrArg V.int h2)) ?_
      refine ⟨_, rfl, _, _, rfl, rfl, _, rfl, ifT (by decide) ⟨_, rfl, _, _, rfl, rfl, _, rfl, ifT (by decide) ?_⟩⟩
      refine ⟨by simp [sizeLine_eq], fun fo hfo => ?_⟩
      have s2 : Same H1 (upd H1 fo (.lst [])) := same_upd hfo
      refine ⟨_, rfl, by decide, by decide, for_it walk_r0 (fun i σ H3 => ∃ (u6 : Option V) (acc : List V) (S : List Fa), σ = [some (.ref R), some (.int 7), some (.int 3), some (.int way), none, some (.ref fo), u6, none, none] ∧ Same H1 H3 ∧ H3 fo = some (.lst acc) ∧ TVs H3 acc S ∧
          S.length = 2 * i ∧ ∀ x ∈ S, Sx x)
        ⟨none, [], [], rfl, s2, upd_same, .nil, rfl, fun _ z => nomatch z⟩ (fun _ _ _ _ _ => trivial) ?_ ?_⟩
      · rintro i v _ _ H3 hi ⟨u6, acc, S, rfl, s3, hf3, tacc, hSl, hS⟩ ⟨rfl, rfl⟩
        have hi7 : i < 7 := hi
        have hla : acc.length = 2 * i := by rw [Paired.length tacc]; exact hSl
        refine ⟨_, rfl, .inl ⟨rfl, _, SqL.of hf3⟩, _, rfl, _, rfl, _, _, rfl, rfl, .inl ⟨_, rfl, _, _, rfl, rfl, (by show (0 : Int) < 7; decide), _, rfl, _, _, rfl, rfl, .inl ⟨_, rfl, _, _, rfl, rfl, (by show (0 : Int) < 7; decide), by simp [sizeLine_eq], fun l hl => ?_⟩⟩⟩
        refine ⟨l, [(i : Int), ((i : Int) + 1) % 7, ((i : Int) + 3) % 7], rfl, SqL.of upd_same, fun ns p pp asc hp => ?_⟩
        refine ⟨p, _, rfl, .inl ⟨SqL.of upd_same, fun t ht => ?_⟩⟩
        have s4 := Same.upd' (o := .tup (ns.map V.int)) (Same.upd' (o := .lst (ns.map V.int)) (same_upd hl) hp) ht
        have hf4 := s4 _ _ hf3
        have tacc4 := tacc.same s4
        have ht4 : TI (upd (upd (upd H3 l (.lst [.int i, .int (((i : Int) + 1) % 7), .int (((i : Int) + 3) % 7)])) p (.lst (ns.map V.int))) t (.tup (ns.map V.int))) t ns := upd_same
        have sx1 : Sx ns := three_sorted pp asc (by omega) (by omega) (by omega) ⟨by omega, by omega⟩ ⟨by omega, by omega⟩ ⟨by omega, by omega⟩
        refine ⟨fo, acc, .ref t, rfl, rfl, hf4, small_line (by omega), ?_⟩
        have s5 : Same H1 (upd (upd (upd (upd H3 l (.lst [.int i, .int (((i : Int) + 1) % 7), .int (((i : Int) + 3) % 7)])) p (.lst (ns.map V.int))) t (.tup (ns.map V.int))) fo (.lst (acc ++ [.ref t]))) := fun b o e => by
          rw [upd_ne (ne_of_none e hfo)]
          exact s4 _ _ (s3 b o e)
        have tacc5 := tvs_snoc (tacc4.but hf4 (fun _ z => nomatch z) (But.upd (o := .lst (acc ++ [.ref t])))) ⟨t, rfl, TI.but ht4 hf4 (fun _ z => nomatch z) But.upd⟩
        have hf5 : upd (upd (upd (upd H3 l (.lst [.int i, .int (((i : Int) + 1) % 7), .int (((i : Int) + 3) % 7)])) p (.lst (ns.map V.int))) t (.tup (ns.map V.int))) fo (.lst (acc ++ [.ref t])) fo = some (.lst (acc ++ [.ref t])) := upd_same
        generalize upd (upd (upd (upd H3 l (.lst [.int i, .int (((i : Int) + 1) % 7), .int (((i : Int) + 3) % 7)])) p (.lst (ns.map V.int))) t (.tup (ns.map V.int))) fo (.lst (acc ++ [.ref t])) = H5 at s5 tacc5 hf5
        clear ht4 tacc4 hf4 s4 ht hp hl pp asc p l
        -- the other one
        refine ⟨_, rfl, .inl ⟨rfl, _, SqL.of hf5⟩, _, rfl, _, rfl, _, _, rfl, rfl, .inl ⟨_, rfl, _, _, rfl, rfl, (by show (0 : Int) < 7; decide), _, rfl, _, _, rfl, rfl, .inl ⟨_, rfl, _, _, rfl, rfl, (by show (0 : Int) < 7; decide), by simp [sizeLine_eq], fun l hl => ?_⟩⟩⟩
        refine ⟨l, [(i : Int), ((i : Int) + 2) % 7, ((i : Int) + 3) % 7], rfl, SqL.of upd_same, fun ns2 p pp asc hp => ?_⟩
        refine ⟨p, _, rfl, .inl ⟨SqL.of upd_same, fun t2 ht2 => ?_⟩⟩
        have s6 := Same.upd' (o := .tup (ns2.map V.int)) (Same.upd' (o := .lst (ns2.map V.int)) (same_upd hl) hp) ht2
        have hf6 := s6 _ _ hf5
        have tacc6 := tacc5.same s6
        have ht6 : TI (upd (upd (upd H5 l (.lst [.int i, .int (((i : Int) + 2) % 7), .int (((i : Int) + 3) % 7)])) p (.lst (ns2.map V.int))) t2 (.tup (ns2.map V.int))) t2 ns2 := upd_same
        have sx2 : Sx ns2 := three_sorted pp asc (by omega) (by omega) (by omega) ⟨by omega, by omega⟩ ⟨by omega, by omega⟩ ⟨by omega, by omega⟩
        refine ⟨fo, _, .ref t2, rfl, rfl, hf6, small_line (by simp; omega), ?_⟩
        refine ⟨_, _, S ++ [ns] ++ [ns2], rfl, fun b o e => ?_, upd_same, ?_, by simp [hSl]; omega, fun x hx => ?_⟩
        · rw [upd_ne (ne_of_none e hfo)]
          exact s6 _ _ (s5 b o e)
        · exact tvs_snoc (tacc6.but hf6 (fun _ z => nomatch z) But.upd) ⟨t2, rfl, TI.but ht6 hf6 (fun _ z => nomatch z) But.upd⟩
        · rcases List.mem_append.mp hx with hx | hx
          · rcases List.mem_append.mp hx with hx | hx
            · exact hS x hx
            · rw [List.mem_singleton.mp hx]; exact sx1
          · rw [List.mem_singleton.mp hx]; exact sx2
      · rintro _ H3 ⟨u6, acc, S, rfl, s3, hf3, tacc, hSl, hS⟩
        refine ⟨_, rfl, fo, acc, rfl, .inl ⟨SqL.of hf3, fun t ht => ?_⟩⟩
        have s4 := Same.upd' (o := .tup acc) s3 ht
        exact q _ t acc S (b1.trans (But.of_same s4)) (rw1.same s4) upd_same (tacc.same (same_upd ht)) ⟨by rw [hSl]; decide, hS⟩
    refine ifF (decide_eq_false (fun z => h2 (V.int.inj z))) (iteF ?_)
    -- the fourth way
    refine ⟨_, rfl, rfl, _, rfl, ?_⟩
    by_cases h3 : way = 3
    · refine ifT (decide_eq_true (congrArg V.int h3)) ?_
      refine ⟨_, rfl, _, _, rfl, rfl, _, rfl, ifT (by decide) ⟨_, rfl, _, _, rfl, rfl, _, rfl, ifT (by decide) ?_⟩⟩
      refine ⟨_, rfl, _, rfl, _, _, rfl, rfl, R, a, 5, rfl, rw1, sc1, by decide, by decide, fun H2 z b2 rw2 z0 z3 => ?_⟩
      have bA := b1.trans b2
      refine ⟨_, _, rfl, rfl, ?_⟩
      refine ⟨_, rfl, _, rfl, by omega, by omega, fun D1 hD1 => ?_⟩
      refine lc_it walk_r0 (fun i H3 => ∃ acc S, Same H2 H3 ∧ H3 D1 = some (.lst acc) ∧ TVs H3 acc S ∧ S.length = i ∧ ∀ x ∈ S, Sx x) ⟨[], [], same_upd hD1, upd_same, .nil, rfl, fun _ z => nomatch z⟩ (fun _ _ _ _ => trivial) ?_ ?_
      · rintro i v _ H3 hi ⟨acc, S, s3, hD3, tacc, hSl, hS⟩ ⟨rfl, rfl⟩
        have hla : acc.length = i := by rw [Paired.length tacc]; exact hSl
        refine ⟨rfl, _, rfl, _, rfl, _, _, rfl, rfl, .inl ⟨_, rfl, _, rfl, _, _, rfl, rfl, (by show (0 : Int) < 3 + z; omega), by simp [sizeLine_eq], fun l hl => ?_⟩⟩
        have hmod : 0 ≤ ((i : Int) + 1) % (3 + z) ∧ ((i : Int) + 1) % (3 + z) < 3 + z := ⟨Int.emod_nonneg _ (by omega), Int.emod_lt_of_pos _ (by omega)⟩
        have hne : (i : Int) ≠ ((i : Int) + 1) % (3 + z) := by
          intro e
          by_cases hlt : (i : Int) + 1 < 3 + z
          · rw [Int.emod_eq_of_lt (by omega) hlt] at e
            omega
          · have e1 : (i : Int) + 1 = 3 + z := by omega
            rw [e1, Int.emod_self] at e
            omega
        refine ⟨l, [(i : Int), ((i : Int) + 1) % (3 + z)], rfl, SqL.of upd_same, fun ns p pp asc hp => ?_⟩
        refine ⟨p, _, rfl, .inl ⟨SqL.of upd_same, fun t ht => ?_⟩⟩
        have s4 := Same.upd' (o := .tup (ns.map V.int)) (Same.upd' (o := .lst (ns.map V.int)) (same_upd hl) hp) ht
        have hD4 := s4 _ _ hD3
        have sx1 : Sx ns := two_sorted pp asc hne ⟨by omega, by omega⟩ ⟨by omega, by omega⟩
        refine ⟨acc, hD4, small_line (by omega), acc ++ [.ref t], S ++ [ns], fun b o e => ?_, upd_same, ?_, by simp [hSl], fun x hx => ?_⟩
        · rw [upd_ne (ne_of_none e hD1)]
          exact s4 _ _ (s3 b o e)
        · exact tvs_snoc ((tacc.same s4).but hD4 (fun _ z => nomatch z) But.upd) ⟨t, rfl, TI.but upd_same hD4 (fun _ z => nomatch z) But.upd⟩
        · rcases List.mem_append.mp hx with hx | hx
          · exact hS x hx
          · rw [List.mem_singleton.mp hx]; exact sx1
      · rintro H3 ⟨acc, S, s3, hD3, tacc, hSl, hS⟩
        refine ⟨D1, acc, rfl, .inl ⟨SqL.of hD3, fun t ht => ?_⟩⟩
        have s4 := Same.upd' (o := .tup acc) s3 ht
        exact q _ t acc S (bA.trans (But.of_same s4)) (rw2.same s4) upd_same (tacc.same (same_upd ht)) ⟨by rw [hSl]; omega, hS⟩
    refine ifF (decide_eq_false (fun z => h3 (V.int.inj z))) (iteF ?_)
    -- the last
    refine ⟨_, rfl, R, a, 8, rfl, rw1, sc1, by decide, by decide, fun H2 z b2 rw2 z0 z8 => ⟨_, rfl, by omega, by omega, fun D1 hD1 => ?_⟩⟩
    have hDR := rw2.ne hD1
    refine lc_it walk_r0 (fun i H3 => ∃ acc S, But R H2 H3 ∧ Rw H3 R a ∧ H3 D1 = some (.lst acc) ∧ TVs H3 acc S ∧ S.length = i ∧ ∀ x ∈ S, Sx x) ⟨[], [], But.of_same (same_upd hD1), rw2.off hDR, upd_same, .nil, rfl, fun _ z => nomatch z⟩ (fun _ _ _ _ => trivial) ?_ ?_
    · rintro i v _ H3 hi ⟨acc, S, b3, rw3, hD3, tacc, hSl, hS⟩ ⟨rfl, rfl⟩
      have hla : acc.length = i := by rw [Paired.length tacc]; exact hSl
      refine ⟨rfl, _, rfl, _, rfl, _, rfl, R, a, rfl, rw3, (sc1.but b2).but b3, fun H4 t x b4 rw4 ht sx => ?_⟩
      have hD4 := b4 _ _ hDR hD3
      obtain ⟨xsR, hR3⟩ : ∃ u, H3 R = some (.lst u) := by obtain ⟨_, _, _, e, _⟩ := rw3; exact ⟨_, e⟩
      refine ⟨acc, hD4, small_line (by omega), acc ++ [.ref t], S ++ [x], (b3.trans b4).new hD1, rw4.off hDR, upd_same, ?_, by simp [hSl], fun y hy => ?_⟩
      · exact tvs_snoc ((tacc.but hR3 (fun _ z => nomatch z) b4).but hD4 (fun _ z => nomatch z) But.upd) ⟨t, rfl, TI.but ht hD4 (fun _ z => nomatch z) But.upd⟩
      · rcases List.mem_append.mp hy with hy | hy
        · exact hS y hy
        · rw [List.mem_singleton.mp hy]; exact sx
    · rintro H3 ⟨acc, S, b3, rw3, hD3, tacc, hSl, hS⟩
      refine ⟨D1, acc, rfl, .inl ⟨SqL.of hD3, fun t ht => ?_⟩⟩
      have hbA := (b1.trans b2).trans b3
      exact q _ t acc S (hbA.trans (But.of_same (same_upd ht))) (rw3.same (same_upd ht)) upd_same (tacc.same (same_upd ht)) ⟨by rw [hSl]; omega, hS⟩
end
end K96

/-! _law_faces. -/
namespace K96
open PySem PySem.Spec PyProof.Rows L2
theorem IsFaces.perm' {S F G : List Fa} (h : IsFaces S F) (p : G.Perm F) : IsFaces S G := ⟨p.nodup_iff.mpr h.nd, fun k => by rw [p.mem_iff]; exact h.mem k⟩
theorem tvs_keys {H : Hp} : ∀ {F : List Fa} {bs : List Addr}, IsKeys H (dF F) bs → TVs H (bs.map V.ref) F
  | [], _, .nil => .nil
  | _ :: _, _, .cons h t => .cons ⟨_, rfl, key_ti h⟩ (tvs_keys t)
section
variable {P : Program} {w : World} {K : PySem.W.Frag} {mg : Str → Option Value} {base : Heap} {C : Addr}

def spFaces : Sp := fun vs H Q _ => ∃ (t : Addr) (xs : List V) (S : List Fa), vs = [.ref t] ∧ TupR H t xs ∧ TVs H xs S ∧ Drawn S ∧
  ∀ H' l ys M, Same H H' → H l = none → H' l = some (.lst ys) → TVs H' ys M → IsFaces S M → M.length ≤ 225 → Q (.ref l) H'
abbrev n_faces : List Str := ["_law_simplices_here", "_law_met", "_law_simplex_here", "_law_some", "_law_vertex", "_law_part", "_law_pair"]
theorem sc_faces : FnScope n_faces ["_law_simplices_here"] (defScope (top 52)) := ⟨rfl, rfl, rfl, by decide +kernel, rfl, by decide +kernel, by decide +kernel⟩
theorem ok_faces (N : Nm mg) (D : Def K mg "_law_faces" (top 52)) : Cal P w K mg base "_law_faces" 1 ["_law_simplices_here"] spFaces := by
  refine D.ok sc_faces (fun vs H Q E h => ?_) (fun _ _ _ _ _ _ us hl => match us, hl with | [_], _ => rfl) (fun f cdv A outer s H vs Q E hr h => ?_)
  · obtain ⟨t, xs, S, rfl, _⟩ := h
    rfl
  · obtain ⟨t, xs, S, rfl, ht, tS, dr, q⟩ := h
    have hu := hu_of hr
    have hu2 : (A.deeper (envOfC "_law_faces" (defScope (top 52)) s.heap.objs.size f cdv)).units + 2 < cLine := by have := hr.units; omega
    refine ⟨_, pss_cons (ps_set (i := 1) sc_faces.nd rfl (Or.inl rfl) pe_dnewT)
      (pss_cons (ps_for PassesOwn.never rfl (pi_tup (pv 0)) (pg_name (i := 2) sc_faces.nd rfl (Or.inl rfl))
      (pss_cons (ps_set (i := 3) sc_faces.nd rfl (Or.inl rfl) (pe_lst (pa_cons (pe_tup pa_nil) pa_nil)))
      (pss_cons (ps_for PassesOwn.never rfl (pi_tup (pv 2)) (pg_name (i := 4) sc_faces.nd rfl (Or.inr rfl))
      (pss_one (ps_set (i := 3) sc_faces.nd rfl (Or.inl rfl) (pe_op op_cat (pv 3) (pe_lc (own := [("_law_part", 5)]) (g := gName 5) (tt := tYes) rfl sc_faces.nd (pi_list (pv 3)) (blkOk_by (N := n_faces) (sc := defScope (top 52)) (by decide +kernel)) (fun _ _ _ _ _ => (pg_name (i := 5) sc_faces.nd rfl (Or.inl rfl))) (fun _ _ _ _ _ => pts_nil) (fun _ _ _ _ _ => by exact (pe_op (op_catK (K := K) rfl) (pv 5) (pe_tup (pa_cons (pv 4) pa_nil)))))))))
      (pss_one (ps_for PassesOwn.never rfl (pi_list (pe_slice sl_list (pv 3) (po_some pe_int) po_none)) (pg_name (i := 5) sc_faces.nd rfl (Or.inl rfl))
      (pss_one (ps_dput hu (pv 1) (pv 5) pe_bl rfl)))))))
      (pss_one (ps_ret (pe_lc (own := [("_law_pair", 6)]) (g := gName 6) (tt := tYes) rfl sc_faces.nd (pi_list (pe_callB (cr_sortN hu2) (by rfl) N.sorted (by decide +kernel) (pa_cons (pe_lc (own := [("_law_part", 5)]) (g := gName 5) (tt := tYes) rfl sc_faces.nd (pi_list (pe_callTy (call_list_dT rfl) (by rfl) N.list (by decide +kernel) (pa_cons (pv 1) pa_nil))) (blkOk_by (N := n_faces) (sc := defScope (top 52)) (by decide +kernel)) (fun _ _ _ _ _ => (pg_name (i := 5) sc_faces.nd rfl (Or.inl rfl))) (fun _ _ _ _ _ => pts_nil) (fun _ _ _ _ _ => by exact (pe_tup (pa_cons (pe_callB (call_lenK (K := K) rfl) (by rfl) N.len PySem.boot_len (pa_cons (pv 5) pa_nil)) (pa_cons (pv 5) pa_nil))))) pa_nil))) (blkOk_by (N := n_faces) (sc := defScope (top 52)) (by decide +kernel)) (fun _ _ _ _ _ => (pg_name (i := 6) sc_faces.nd rfl (Or.inl rfl))) (fun _ _ _ _ _ => pts_nil) (fun _ _ _ _ _ => by exact (pe_ix (ix_tupK (K := K) rfl) (pv 6) pe_int (fun _ _ => rfl))))))), ?_⟩
    have hlen := Paired.length tS
    -- met = {}
    intro d hd
    have s0 : Same H (upd H d (.dT [])) := same_upd hd
    -- for simplex_here in simplices_here
    refine ⟨_, rfl, t, rfl, ⟨_, TupR.seq (TupR.same s0 ht)⟩, for_it walk_tup (fun i σ H2 => ∃ (u1 u2 u3 u4 : Option V) (F : List Fa), σ = [some (.ref t), some (.ref d), u1, u2, u3, u4, none] ∧ Same H H2 ∧ H2 d = some (.dT (dF F)) ∧ IsFaces (S.take i) F ∧ F.length ≤ 15 * i)
      ⟨none, none, none, none, [], rfl, s0, upd_same, faces_nil, Nat.le_refl _⟩ (fun i σ H2 _ ⟨_, _, _, _, _, _, s2, _⟩ => TupR.seq (TupR.same s2 ht)) ?_ ?_⟩
    · rintro i v _ _ H2 hi ⟨u1, u2, u3, u4, F, rfl, s2, hd2, hF, hl⟩ ⟨rfl, hv⟩
      obtain ⟨x, hx, a, rfl, ha⟩ := tvs_at tS hv
      have hm : x ∈ S := List.mem_of_getElem? hx
      have ha2 : TI H2 a x := s2 _ _ ha
      have hi15 : i < 15 := Nat.lt_of_lt_of_le (List.getElem?_eq_some_iff.mp hx).1 dr.few
      have hx4 := dr.len x hm
      -- some = [()]
      refine ⟨by simp [sizeLine_eq], fun e he => ⟨by simp [sizeLine_eq], fun l hl' => ?_⟩⟩
      have nle : e ≠ l := by rintro rfl; rw [upd_same] at hl'; cases hl'
      have s3 : Same H2 (upd (upd H2 e (.tup [])) l (.lst [.ref e])) := Same.upd' (same_upd he) hl'
      have hl3 : upd (upd H2 e (.tup [])) l (.lst [.ref e]) l = some (.lst [.ref e]) := upd_same
      have te3 : TVs (upd (upd H2 e (.tup [])) l (.lst [.ref e])) [.ref e] (ptsF (x.take 0)) := .cons ⟨e, rfl, by show upd _ _ _ e = _; rw [upd_ne nle, upd_same]; rfl⟩ .nil
      generalize upd (upd H2 e (.tup [])) l (.lst [.ref e]) = H3 at s3 hl3 te3
      -- for vertex in simplex_here
      refine ⟨_, rfl, a, rfl, ⟨_, SqT.of (s3 _ _ ha2)⟩, for_it walk_tup (fun j σ H4 => ∃ (u3 : Option V) (l : Addr) (xs : List V), σ = [some (.ref t), some (.ref d), some (.ref a), some (.ref l), u3, u4, none] ∧ Same H2 H4 ∧ H4 l = some (.lst xs) ∧ TVs H4 xs (ptsF (x.take j)))
        ⟨u3, l, [.ref e], rfl, s3, hl3, te3⟩ (fun j σ H4 _ ⟨_, _, _, _, s4, _⟩ => SqT.of (s4 _ _ ha2)) ?_ ?_⟩
      · rintro j v _ _ H4 hj ⟨u3, l4, xs4, rfl, s4, hl4, tv⟩ ⟨rfl, hv⟩
        obtain ⟨z, hz, rfl⟩ := ints_at hv
        rw [List.length_map] at hj
        have hlen4 : xs4.length = 2 ^ j := by
          rw [Paired.length tv, ptsF_length, List.length_take, Nat.min_eq_left (by omega)]
        have hpow : 2 ^ j ≤ 16 := Nat.le_trans (Nat.pow_le_pow_right (by decide) (by omega : j ≤ 4)) (by decide)
        refine ⟨_, rfl, _, rfl, l4, rfl, ⟨_, SqL.of hl4⟩, fun D hD => ?_⟩
        refine lc_it walk_list (GP H4 D (fun k acc H => ∃ L, TVs H acc L ∧ L = ((ptsF (x.take j)).take k).map fun y => y ++ [z])) (gp_start hD ⟨[], .nil, rfl⟩) (fun k H5 _ h5 => h5.1.seq (SqL.of hl4)) ?_ ?_
        · rintro k y _ H5 hk ⟨s5, acc, hD5, L, tacc, rfl⟩ ⟨rfl, hy⟩
          obtain ⟨pt, hpt, b, rfl, hb⟩ := tvs_at tv hy
          have hb5 : TI H5 b pt := s5 _ _ hb
          have hkl : pt.length ≤ 4 := by
            have := ((ptsF_mem _ pt).mp (List.mem_of_getElem? hpt)).length_le
            rw [List.length_take] at this
            omega
          have hla : acc.length = k := by
            rw [Paired.length tacc, List.length_map, List.length_take, Nat.min_eq_left]
            rw [← Paired.length tv]
            omega
          have grow : ∀ H6 (c : Addr), Same H5 H6 → TI H6 c (pt ++ [z]) → ∃ acc', H6 D = some (.lst acc') ∧ acc'.length < sizeLine ∧ GP H4 D (fun k acc H => ∃ L, TVs H acc L ∧ L = ((ptsF (x.take j)).take k).map fun y => y ++ [z]) (k + 1) (upd H6 D (.lst (acc' ++ [.ref c]))) := fun H6 c s6 hc =>
            gp_grow off_tvs hD s5 hD5 s6 (small_line (by omega)) ⟨_, tvs_snoc (x := pt ++ [z]) (tacc.same s6) ⟨c, rfl, hc⟩, by rw [take_snoc hpt, List.map_append]; rfl⟩
          refine ⟨rfl, _, rfl, _, rfl, by simp [sizeLine_eq], fun t2 ht2 => ?_⟩
          have s6 : Same H5 (upd H5 t2 (.tup [.int z])) := same_upd ht2
          refine ⟨b, t2, pt.map V.int, [.int z], rfl, rfl, SqT.of (s6 _ _ hb5), SqT.of upd_same, by rw [List.length_map, sizeLine_eq]; simp; omega, fun e0 => ?_, fun _ z2 => (nomatch z2), fun _ _ t3 ht3 => ?_⟩
          · have e1 : pt = [] := List.map_eq_nil_iff.mp e0
            refine grow _ t2 s6 ?_
            rw [e1]
            exact upd_same
          · refine grow _ t3 (Same.upd' s6 ht3) ?_
            show upd _ t3 _ t3 = _
            rw [upd_same, List.map_append]
            rfl
        · rintro H5 ⟨s5, acc, hD5, L, tacc, rfl⟩
          have hL : xs4.length = (ptsF (x.take j)).length := Paired.length tv
          rw [hL, List.take_length] at tacc
          have hla : acc.length = 2 ^ j := by rw [Paired.length tacc, List.length_map, ← hL, hlen4]
          refine ⟨l4, D, xs4, acc, rfl, rfl, s5 _ _ hl4, hD5, by rw [sizeLine_eq]; omega, fun l6 hl6 => ?_⟩
          refine ⟨_, l6, _, rfl, Same.upd' (s4.trans s5) hl6, upd_same, ?_⟩
          rw [take_snoc hz, ptsF_snoc]
          exact TVs.same (same_upd hl6) (paired_app (tv.same s5) tacc)
      · rintro _ H4 ⟨u3, l4, xs4, rfl, s4, hl4, tv⟩
        rw [List.length_map, List.take_length] at tv
        have hl1 : 1 ≤ xs4.length := by
          rw [Paired.length tv, ptsF_length]
          exact Nat.one_le_two_pow
        -- for part in some[1:]
        refine ⟨_, rfl, 1, rfl, l4, xs4, rfl, SqL.of hl4, fun r hr' => ?_⟩
        rw [show (1 : Int) = ((1 : Nat) : Int) from rfl, cut_from hl1]
        refine ⟨r, rfl, ⟨_, SqL.of upd_same⟩, ?_⟩
        have s5 : Same H2 (upd H4 r (.lst (xs4.drop 1))) := Same.upd' s4 hr'
        have tys : TVs (upd H4 r (.lst (xs4.drop 1))) (xs4.drop 1) (ptsN x) := TVs.same (same_upd hr') (paired_drop 1 tv)
        have hr5 : upd H4 r (.lst (xs4.drop 1)) r = some (.lst (xs4.drop 1)) := upd_same
        have hd5 := s5 _ _ hd2
        have hrd : r ≠ d := by rintro rfl; rw [hd5] at hr5; cases hr5
        generalize upd H4 r (.lst (xs4.drop 1)) = H5 at s5 tys hr5 hd5
        have hpl : (ptsN x).length ≤ 15 := by
          rw [ptsN_length]
          have : 2 ^ x.length ≤ 2 ^ 4 := Nat.pow_le_pow_right (by decide) hx4
          omega
        refine for_it walk_list (fun j σ H6 => ∃ u4 : Option V, σ = [some (.ref t), some (.ref d), some (.ref a), some (.ref l4), u3, u4, none] ∧ But d H5 H6 ∧ H6 d = some (.dT (dF (insA F ((ptsN x).take j)))))
          ⟨u4, rfl, But.of_same (Same.refl _), hd5⟩ (fun j σ H6 _ ⟨_, _, b6, _⟩ => SqL.of (b6 _ _ hrd hr5)) ?_ ?_
        · rintro j y _ _ H6 hj ⟨u4, rfl, b6, h6⟩ ⟨rfl, hy⟩
          obtain ⟨k, hk, b, rfl, hb⟩ := tvs_at tys hy
          have hb6 : TI H6 b k := TI.but hb hd5 (fun _ z => nomatch z) b6
          have hlen := insA_len F ((ptsN x).take j)
          have ht : ((ptsN x).take j).length ≤ 15 := Nat.le_trans (List.length_take_le' ..) hpl
          refine ⟨_, rfl, _, rfl, d, _, rfl, DPut.t (k := ky k) h6 (ti_key hb6) (by rw [dF_len]; exact small_line (by omega)), _, rfl, b6.trans But.upd, ?_⟩
          rw [upd_same, put_dF, take_snoc hk, insA_snoc]
        · rintro _ H6 ⟨u4, rfl, b6, h6⟩
          rw [Paired.length tys, List.take_length] at h6
          have hlen := insA_len F (ptsN x)
          refine ⟨_, _, _, _, _, rfl, fun b o e => ?_, h6, ?_, by omega⟩
          · exact b6 b o (ne_of_none e hd) (s5 _ _ (s2 b o e))
          · rw [take_snoc hx]
            exact faces_new hF
    · rintro _ H2 ⟨u1, u2, u3, u4, F, rfl, s2, hd2, hF, hl⟩
      rw [hlen, List.take_length] at hF
      have h15 := dr.few
      rw [hlen] at hl
      -- the sorted pairs
      refine ⟨_, rfl, d, dF F, rfl, .inl hd2, fun p bs hp hbs => ?_⟩
      have tF := TVs.same (same_upd (o := .lst (bs.map V.ref)) hp) (tvs_keys hbs)
      have hFl := Paired.length tF
      have s3 := Same.upd' (o := .lst (bs.map V.ref)) s2 hp
      have hp3 : upd H2 p (.lst (bs.map V.ref)) p = some (.lst (bs.map V.ref)) := upd_same
      generalize upd H2 p (.lst (bs.map V.ref)) = H3 at tF s3 hp3
      refine ⟨p, rfl, ⟨_, SqL.of hp3⟩, fun D1 hD1 => lc_it walk_list (GP H3 D1 (fun i acc H => ∃ L', PVs H acc L' ∧ L' = F.take i)) (gp_start hD1 ⟨[], .nil, rfl⟩) (fun i H4 _ h4 => h4.1.seq (SqL.of hp3)) ?_ ?_⟩
      · rintro i v _ H4 hi ⟨s4, acc, hD4, L', tacc, rfl⟩ ⟨rfl, hv⟩
        obtain ⟨x, hx, a, rfl, ha⟩ := tvs_at tF hv
        have ha4 : TI H4 a x := s4 _ _ ha
        refine ⟨rfl, _, rfl, a, _, rfl, .inr (SqT.of ha4), _, rfl, by simp [sizeLine_eq], fun t2 ht2 => ?_⟩
        have hl3 : acc.length = i := by rw [Paired.length tacc, List.length_take, Nat.min_eq_left]; omega
        refine gp_grow off_pvs hD1 s4 hD4 (same_upd ht2) (small_line (by omega)) ⟨_, Paired.snoc (PVs.same (same_upd ht2) tacc) (b := x) ⟨t2, a, rfl, ?_, same_upd ht2 _ _ ha4⟩, (take_snoc hx).symm⟩
        rw [upd_same, List.length_map]
      · rintro H4 ⟨s4, acc, hD4, L', tacc, rfl⟩
        rw [hFl, List.take_length] at tacc
        dsimp only [tNil]
        refine sort_pvs (SqL.of hD4) tacc fun ys p2 M tM pM hp2 => ⟨p2, rfl, ⟨ys, SqL.of upd_same⟩, fun D2 hD2' => ?_⟩
        have hML : M.length = F.length := pM.length_eq
        have hys := Paired.length tM
        refine lc_it walk_list (GP _ D2 (fun i acc H => ∃ L', TVs H acc L' ∧ L' = M.take i)) (gp_start hD2' ⟨[], .nil, rfl⟩) (fun i H3 _ h3 => h3.1.seq (SqL.of upd_same)) ?_ ?_
        · rintro i v _ H5 hi ⟨s5, acc3, hD5, L', tacc3, rfl⟩ ⟨rfl, hv⟩
          obtain ⟨x, hx, t2, a, rfl, ht2, ha⟩ := paired_get tM hv
          have ht3 : H5 t2 = some (.tup [.int x.length, .ref a]) := s5 _ _ (same_upd hp2 _ _ ht2)
          have ha3 : TI H5 a x := s5 _ _ (same_upd hp2 _ _ ha)
          refine ⟨rfl, _, rfl, t2, _, 1, .ref a, rfl, rfl, SqT.of ht3, rfl, ?_⟩
          have hl3 : acc3.length = i := by rw [Paired.length tacc3, List.length_take, Nat.min_eq_left]; omega
          exact gp_grow off_tvs hD2' s5 hD5 (Same.refl _) (small_line (by omega)) ⟨_, tvs_snoc tacc3 ⟨a, rfl, ha3⟩, (take_snoc hx).symm⟩
        · rintro H5 ⟨s5, acc3, hD5, L', tacc3, rfl⟩
          rw [hys, List.take_length] at tacc3
          have sA : Same H H5 := ((s3.trans s4).trans (same_upd hp2)).trans s5
          exact q H5 D2 acc3 M sA (((s3.trans s4).trans (same_upd hp2)).free hD2') hD5 tacc3 (hF.perm' pM) (by omega)
end
end K96

/-! _law_wide. -/
namespace K96
open PySem PySem.Spec PyProof.Rows L2
section
variable {X : Cx} {K : PySem.W.Frag} {w : World}
theorem cr_setKW (hK : X.K = K) (hw : X.w = w) (hc : X.calm = true) : CallR X (.type "set") (rSetI K w) := by subst hK hw; exact cr_setI hc
theorem cr_sortedSetW (hw : X.w = w) (hc : X.calm = true) : CallR X (.builtin "sorted") (rSortedSet w) := by subst hw; exact cr_sortedSet hc
end
/-- one to four vertices from 0 to 6, ascending -/
structure Cn (x : Fa) : Prop where
  ne : 1 ≤ x.length
  len : x.length ≤ 4
  lo : ∀ v ∈ x, 0 ≤ v
  hi : ∀ v ∈ x, v ≤ 6
  up : x.Pairwise (· < ·)
theorem Drawn.of_cn {S : List Fa} (h : S.length ≤ 15) (c : ∀ x ∈ S, Cn x) : Drawn S := ⟨h, fun s hs => (c s hs).ne, fun s hs => (c s hs).len, fun s hs => (c s hs).lo, fun s hs => (c s hs).hi, fun s hs => (c s hs).up⟩
theorem inV_ints {z : Int} {x : List Int} : inV (.int z) (x.map V.int) = decide (z ∈ x) := by
  by_cases h : z ∈ x
  · rw [in_ints h, decide_eq_true h]
  · rw [decide_eq_false h]
    unfold inV
    rw [List.any_eq_false]
    intro y hy
    obtain ⟨w, hw, rfl⟩ := List.mem_map.mp hy
    have : w ≠ z := fun e => h (e ▸ hw)
    simp [eqV, this]
theorem Sxs.drawn {S : List Fa} (h : Sxs S) : Drawn S :=
  ⟨by have := h.few; omega, fun s hs => (h.all s hs).ne, fun s hs => by have := (h.all s hs).len; omega, fun s hs => (h.all s hs).lo, fun s hs => (h.all s hs).hi, fun s hs => (h.all s hs).up⟩
section
variable {P : Program} {w : World} {K : PySem.W.Frag} {mg : Str → Option Value} {base : Heap} {C : Addr}

def spWide (K : PySem.W.Frag) : Sp := fun vs H Q _ => ∃ (R a : Addr), vs = [.ref R, .int 7, .int 3] ∧ Rw H R a ∧ Scr K H R a ∧ ∀ H' t xs S, But R H H' → Rw H' R a → H' t = some (.tup xs) → TVs H' xs S → Drawn S → Q (.ref t) H'
abbrev n_wide : List Str := ["_law_row", "_law_most", "_law_size", "_law_way", "_law_base", "_law_tip", "_law_found", "_law_last", "_law_turn", "_law_fresh", "_law_rest", "_law_face", "_law_vertex"]
theorem sc_wide : FnScope n_wide ["_law_row", "_law_most", "_law_size"] (defScope (top 53)) := ⟨rfl, rfl, rfl, by decide +kernel, rfl, by decide +kernel, by decide +kernel⟩
theorem ok_wide (N : Nm mg) (D : Def K mg "_law_wide" (top 53)) (c1 : Cal P w K mg base "_law_taken" 1 ["_law_row", "_law_many"] (spTaken K))
    (c2 : Cal P w K mg base "_law_simplices" 3 ["_law_row", "_law_most", "_law_size"] (spSimplices K)) (c3 : Cal P w K mg base "_law_pick" 2 ["_law_row", "_law_things"] (spPick K)) : Cal P w K mg base "_law_wide" 4 ["_law_row", "_law_most", "_law_size"] (spWide K) := by
  obtain ⟨f1, fd1, G_taken, g_taken, k_taken, b_taken⟩ := c1.ex
  obtain ⟨f2, fd2, G_simplices, g_simplices, k_simplices, b_simplices⟩ := c2.ex
  obtain ⟨f3, fd3, G_pick, g_pick, k_pick, b_pick⟩ := c3.ex
  refine D.ok sc_wide (fun vs H Q E h => ?_) (fun _ _ _ _ _ _ us hl => match us, hl with | [_, _, _], _ => rfl) (fun f cdv A outer s H vs Q E hr h => ?_)
  · obtain ⟨R, a, rfl, _⟩ := h
    rfl
  · obtain ⟨R, a, rfl, rw0, sc, q⟩ := h
    have hr1 : Room 1 _ := hr.mono (by decide)
    have hr2 : Room 2 _ := hr.mono (by decide)
    have hu64 : (A.deeper (envOfC "_law_wide" (defScope (top 53)) s.heap.objs.size f cdv)).units + 64 < cLine := hr.units
    refine ⟨_, pss_cons (ps_par (i := 3) (j := 4) (by rfl) sc_wide.nd rfl rfl (by decide) rfl rfl (pa_cons (pe_call G_taken hr1 (by rfl) g_taken k_taken b_taken .nil pass0 (pa_cons (pv 0) (pa_cons pe_int pa_nil))) (pa_cons (pe_call G_simplices hr (by rfl) g_simplices k_simplices b_simplices .nil pass0 (pa_cons (pv 0) (pa_cons (pv 1) (pa_cons (pv 2) pa_nil)))) pa_nil)) (by rfl))
      (pss_cons (ps_if (pt_cmpR op_eq (pv 3) pe_int (nomark _)) (pss_cons (ps_set (i := 5) sc_wide.nd rfl (Or.inr rfl) (pe_call G_taken hr1 (by rfl) g_taken k_taken b_taken .nil pass0 (pa_cons (pv 0) (pa_cons (pv 1) pa_nil))))
      (pss_one (ps_ret (pe_op op_catA (pe_callTy call_tuple_of (by rfl) N.tuple (by decide +kernel) (pa_cons (pe_lc (own := [("_law_face", 11)]) (g := gName 11) (tt := tYes) rfl sc_wide.nd (pi_tup (pv 4)) (blkOk_by (N := n_wide) (sc := defScope (top 53)) (by decide +kernel)) (fun _ _ _ _ _ => (pg_name (i := 11) sc_wide.nd rfl (Or.inl rfl))) (fun _ _ _ _ _ => pts_nil) (fun _ _ _ _ _ => by exact (pe_callTy (call_tupleK (K := K) rfl) (by rfl) N.tuple (by decide +kernel) (pa_cons (pe_callB (cr_sortedSetW (w := w) rfl rfl) (by rfl) N.sorted (by decide +kernel) (pa_cons (pe_callTy (cr_setKW (K := K) (w := w) rfl rfl rfl) (by rfl) N.set (by decide +kernel) (pa_cons (pe_op (op_catK (K := K) rfl) (pv 11) (pe_tup (pa_cons (pv 5) pa_nil))) pa_nil)) pa_nil)) pa_nil)))) pa_nil)) (pe_tup (pa_cons (pe_tup (pa_cons (pv 5) pa_nil)) pa_nil)))))) pss_nil)
      (pss_cons (ps_if (pt_cmpR op_eq (pv 3) pe_int (nomark _)) (pss_cons (ps_asg (pe_tup (pa_cons (pe_lst pa_nil) (pa_cons (pe_tupRg rfl (by rfl) N.tuple (prg_1 (by rfl) N.range (pe_callB (call_min2 rfl) (by rfl) N.min (by decide +kernel) (pa_cons (pv 2) (pa_cons (pv 1) pa_nil))))) pa_nil))) (pg_tup rfl (pgs_cons (pg_name (i := 6) sc_wide.nd rfl (Or.inl rfl)) (pgs_cons (pg_name (i := 7) sc_wide.nd rfl (Or.inr rfl)) pgs_nil))))
      (pss_cons (ps_for PassesOwn.never rfl (pi_range1 (by rfl) N.range (pa_cons (pe_call G_taken hr1 (by rfl) g_taken k_taken b_taken .nil pass0 (pa_cons (pv 0) (pa_cons pe_int pa_nil))) pa_nil)) (pg_name (i := 8) sc_wide.nd rfl (Or.inl rfl))
      (pss_cons (ps_expr (pe_bm PySem.F.plainAttrs_list PySem.F.slot_list_append PySem.F.type_list_append mt_append (pv 6) (pa_cons (pv 7) pa_nil)))
      (pss_cons (ps_setLc (i := 9) (own := [("_law_vertex", 12)]) (g := gName 12) rfl sc_wide.nd rfl rfl (sw_true rfl rfl rfl (by decide +kernel)) (pi_range1 (by rfl) N.range (pa_cons (pv 1) pa_nil)) (blkOk_by (N := n_wide) (sc := defScope (top 53)) (by decide +kernel)) (fun _ _ _ _ _ => (pg_name (i := 12) sc_wide.nd rfl (Or.inl rfl))) (fun _ _ _ _ _ => (pts_one (pt_cmpR (op_notInSK (K := K) rfl) (pv 12) (pv 7) rfl))) (fun _ _ _ _ _ => by exact (pv 12)))
      (pss_one (ps_if (pt_cmpR (op_neD hu64) (pv 9) (pe_lst pa_nil) (nomark _)) (pss_cons (ps_set (i := 10) sc_wide.nd rfl (Or.inl rfl) (pe_callTy call_list_of (by rfl) N.list (by decide +kernel) (pa_cons (pv 7) pa_nil)))
      (pss_cons (ps_expr (pe_bm PySem.F.plainAttrs_list PySem.F.slot_list_pop PySem.F.type_list_pop mt_popAt (pv 10) (pa_cons (pe_call G_taken hr1 (by rfl) g_taken k_taken b_taken .nil pass0 (pa_cons (pv 0) (pa_cons (pe_callB call_len_seq (by rfl) N.len PySem.boot_len (pa_cons (pv 10) pa_nil)) pa_nil))) pa_nil)))
      (pss_one (ps_set (i := 7) sc_wide.nd rfl (Or.inr rfl) (pe_callTy call_tuple_of (by rfl) N.tuple (by decide +kernel) (pa_cons (pe_callB cr_sortedI (by rfl) N.sorted (by decide +kernel) (pa_cons (pe_op op_cat (pv 10) (pe_lst (pa_cons (pe_call G_pick hr2 (by rfl) g_pick k_pick b_pick .nil pass0 (pa_cons (pv 0) (pa_cons (pv 9) pa_nil))) pa_nil))) pa_nil)) pa_nil)))))) pss_nil)))))
      (pss_one (ps_ret (pe_callTy call_tuple_of (by rfl) N.tuple (by decide +kernel) (pa_cons (pv 6) pa_nil)))))) pss_nil)
      (pss_one (ps_ret (pv 4))))), ?_⟩
    -- way, base
    refine ⟨_, rfl, R, a, 4, rfl, rw0, sc, by decide, by decide, fun H1 way b1 rw1 w0 w4 => ⟨_, rfl, _, rfl, _, rfl, R, a, rfl, rw1, sc.but b1, fun H2 tb xs S b2 rw2 htb tS sxs => ⟨_, _, rfl, ?_⟩⟩⟩
    have bA := b1.trans b2
    have sc2 := sc.but bA
    have hdr := sxs.drawn
    have hxl := Paired.length tS
    have h14 := sxs.few
    -- if way == 0
    refine ⟨_, rfl, rfl, _, rfl, ?_⟩
    by_cases h0 : way = 0
    · refine ifT (decide_eq_true (congrArg V.int h0)) ?_
      refine ⟨_, rfl, _, rfl, R, a, 7, rfl, rw2, sc2, by decide, by decide, fun H3 tip b3 rw3 t0 t7 => ?_⟩
      have bB := bA.trans b3
      obtain ⟨uR, hR2⟩ : ∃ u, H2 R = some (.lst u) := by obtain ⟨_, _, _, e, _⟩ := rw2; exact ⟨_, e⟩
      have htb3 := tup_but htb hR2 (fun _ z => nomatch z) b3
      have tS3 := tS.but hR2 (fun _ z => nomatch z) b3
      refine ⟨_, rfl, tb, rfl, ⟨_, SqT.of htb3⟩, fun D1 hD1 => ?_⟩
      refine lc_it walk_tup (fun i H4 => ∃ acc L, Same H3 H4 ∧ H4 D1 = some (.lst acc) ∧ TVs H4 acc L ∧ L.length = i ∧ ∀ y ∈ L, Cn y) ⟨[], [], same_upd hD1, upd_same, .nil, rfl, fun _ z => nomatch z⟩ (fun i H4 _ ⟨_, _, s4, _⟩ => SqT.of (s4 _ _ htb3)) ?_ ?_
      · rintro i v _ H4 hi ⟨acc, L, s4, hD4, tacc, hLl, hL⟩ ⟨rfl, hv⟩
        obtain ⟨x, hx, b, rfl, hb⟩ := tvs_at tS3 hv
        have sx := sxs.all x (List.mem_of_getElem? hx)
        have hx3 := sx.len
        have hla : acc.length = i := by rw [Paired.length tacc]; exact hLl
        have hb4 : TI H4 b x := s4 _ _ hb
        refine ⟨rfl, _, rfl, _, rfl, by simp [sizeLine_eq], fun t2 ht2 => ?_⟩
        have s5 : Same H4 (upd H4 t2 (.tup [.int tip])) := same_upd ht2
        refine ⟨b, t2, x.map V.int, [.int tip], rfl, rfl, SqT.of (s5 _ _ hb4), SqT.of upd_same, by rw [List.length_map, sizeLine_eq]; simp; omega, fun e0 => ?_, fun _ z2 => (nomatch z2), fun _ _ t3 ht3 => ?_⟩
        · have := sx.ne
          rw [List.map_eq_nil_iff.mp e0] at this
          simp at this
        have s6 := Same.upd' (o := .tup (x.map V.int ++ [.int tip])) s5 ht3
        refine ⟨t3, x ++ [tip], rfl, SqT.of (by rw [List.map_append]; exact upd_same), by simp; omega, fun ss c hss hc => ?_⟩
        have hc4 : c ≤ 4 := by simp at hc; omega
        refine ⟨ss, _, c, rfl, upd_same, by omega, fun ns p asc mem hlen hp => ?_⟩
        refine ⟨p, _, rfl, .inl ⟨SqL.of upd_same, fun t4 ht4 => ?_⟩⟩
        have s7 : Same H4 (upd (upd (upd (upd (upd H4 t2 (.tup [.int tip])) t3 (.tup (x.map V.int ++ [.int tip]))) ss (SetO w ss (fun j => decide (j ∈ x ++ [tip])) c)) p (.lst (ns.map V.int))) t4 (.tup (ns.map V.int))) := Same.upd' (Same.upd' (Same.upd' s6 hss) hp) ht4
        have hD7 := s7 _ _ hD4
        have hmem : ∀ k, k ∈ ns ↔ k ∈ x ∨ k = tip := fun k => by
          rw [mem k]
          simp
        have cn : Cn ns := by
          refine ⟨?_, by omega, fun v hv => ?_, fun v hv => ?_, asc⟩
          · exact List.length_pos_of_mem ((hmem tip).mpr (.inr rfl))
          · rcases (hmem v).mp hv with z | z
            · exact sx.lo v z
            · omega
          · rcases (hmem v).mp hv with z | z
            · exact sx.hi v z
            · omega
        refine ⟨acc, hD7, small_line (by omega), acc ++ [.ref t4], L ++ [ns], fun b' o e => ?_, upd_same, ?_, by simp [hLl], fun y hy => ?_⟩
        · rw [upd_ne (ne_of_none e hD1)]
          exact s7 _ _ (s4 b' o e)
        · exact tvs_snoc ((tacc.same s7).but hD7 (fun _ z => nomatch z) But.upd) ⟨t4, rfl, TI.but upd_same hD7 (fun _ z => nomatch z) But.upd⟩
        · rcases List.mem_append.mp hy with hy | hy
          · exact hL y hy
          · rw [List.mem_singleton.mp hy]; exact cn
      · rintro H4 ⟨acc, L, s4, hD4, tacc, hLl, hL⟩
        have hla : acc.length ≤ 14 := by rw [Paired.length tacc, hLl]; omega
        refine ⟨D1, acc, rfl, .inl ⟨SqL.of hD4, fun t5 ht5 => ?_⟩⟩
        refine ⟨_, rfl, by simp [sizeLine_eq], fun t6 ht6 => ⟨by simp [sizeLine_eq], fun t7' ht7 => ?_⟩⟩
        have s5 : Same H4 (upd H4 t5 (.tup acc)) := same_upd ht5
        have s6 := Same.upd' (o := .tup [.int tip]) s5 ht6
        have s7 := Same.upd' (o := .tup [.ref t6]) s6 ht7
        have ht5' : upd (upd (upd H4 t5 (.tup acc)) t6 (.tup [.int tip])) t7' (.tup [.ref t6]) t5 = some (.tup acc) := same_upd ht7 _ _ (same_upd ht6 _ _ upd_same)
        have ht6' : TI (upd (upd (upd H4 t5 (.tup acc)) t6 (.tup [.int tip])) t7' (.tup [.ref t6])) t6 [tip] := same_upd ht7 _ _ upd_same
        have ht7' : upd (upd (upd H4 t5 (.tup acc)) t6 (.tup [.int tip])) t7' (.tup [.ref t6]) t7' = some (.tup [.ref t6]) := upd_same
        have tacc7 := tacc.same s7
        generalize upd (upd (upd H4 t5 (.tup acc)) t6 (.tup [.int tip])) t7' (.tup [.ref t6]) = H7 at s7 ht5' ht6' ht7' tacc7
        have s8 := s4.trans s7
        have cn : Cn [tip] := ⟨by simp, by simp, fun v hv => by rw [List.mem_singleton.mp hv]; exact t0, fun v hv => by rw [List.mem_singleton.mp hv]; omega, by simp⟩
        have hall : ∀ y ∈ L ++ [[tip]], Cn y := fun y hy => by
          rcases List.mem_append.mp hy with hy | hy
          · exact hL y hy
          · rw [List.mem_singleton.mp hy]; exact cn
        have hdr : Drawn (L ++ [[tip]]) := Drawn.of_cn (by rw [List.length_append, hLl, List.length_singleton]; omega) hall
        have htv : TVs H7 (acc ++ [.ref t6]) (L ++ [[tip]]) := tvs_snoc tacc7 ⟨t6, rfl, ht6'⟩
        refine ⟨t5, t7', acc, [.ref t6], rfl, rfl, SqT.of ht5', SqT.of ht7', by rw [sizeLine_eq]; simp; omega, fun e0 => ?_, fun _ z2 => (nomatch z2), fun _ _ t8 ht8 => ?_⟩
        · rw [e0] at htv
          exact q H7 t7' _ _ (bB.trans (But.of_same s8)) (rw3.same s8) ht7' htv hdr
        · exact q _ t8 _ _ (bB.trans (But.of_same (Same.upd' s8 ht8))) (rw3.same (Same.upd' s8 ht8)) upd_same (htv.same (same_upd ht8)) hdr
    refine ifF (decide_eq_false (fun z => h0 (V.int.inj z))) ?_
    refine ⟨_, rfl, rfl, _, rfl, ?_⟩
    by_cases h1 : way = 1
    · refine ifT (decide_eq_true (congrArg V.int h1)) ?_
      -- found, last
      refine ⟨by simp [sizeLine_eq], fun fo hfo => ⟨_, rfl, _, rfl, _, _, rfl, _, rfl, RgOk.of_le (by decide) (by decide) (by decide) (by decide), fun la hla => ?_⟩⟩
      refine ⟨by simp [sizeLine_eq], fun t2 ht2 => ⟨t2, _, rfl, SqT.of upd_same, rfl, _, _, rfl, _, _, rfl, rfl, ?_⟩⟩
      have s3 : Same H2 (upd (upd (upd H2 fo (.lst [])) la (.tup (rgV 0 (if (7 : Int) < 3 then 7 else 3)))) t2 (.tup [.ref fo, .ref la])) := Same.upd' (Same.upd' (same_upd hfo) hla) ht2
      have hf3 : upd (upd (upd H2 fo (.lst [])) la (.tup (rgV 0 (if (7 : Int) < 3 then 7 else 3)))) t2 (.tup [.ref fo, .ref la]) fo = some (.lst []) := same_upd ht2 _ _ (same_upd hla _ _ upd_same)
      have hl3 : TI (upd (upd (upd H2 fo (.lst [])) la (.tup (rgV 0 (if (7 : Int) < 3 then 7 else 3)))) t2 (.tup [.ref fo, .ref la])) la [0, 1, 2] := same_upd ht2 _ _ upd_same
      have hfR := rw2.ne hfo
      generalize upd (upd (upd H2 fo (.lst [])) la (.tup (rgV 0 (if (7 : Int) < 3 then 7 else 3)))) t2 (.tup [.ref fo, .ref la]) = H3 at s3 hf3 hl3
      clear ht2 hla
      have rw3 := rw2.same s3
      have hfoH : H fo = none := bA.gone hfo hfR
      -- for turn in range(taken(row, 5))
      refine ⟨_, rfl, R, a, 5, rfl, rw3, sc2.but (But.of_same s3), by decide, by decide, fun H4 z b4 rw4 z0 z5 => ⟨_, rfl, by omega, by omega, ?_⟩⟩
      obtain ⟨uR, hR3⟩ : ∃ u, H3 R = some (.lst u) := by obtain ⟨_, _, _, e, _⟩ := rw3; exact ⟨_, e⟩
      have bB := (bA.trans (But.of_same s3)).trans b4
      refine for_it walk_r0 (fun i σ H5 => ∃ (la : Addr) (u8 u9 u10 : Option V) (acc : List V) (S' : List Fa) (x : Fa), σ = [some (.ref R), some (.int 7), some (.int 3), some (.int way), some (.ref tb), none, some (.ref fo), some (.ref la), u8, u9, u10, none, none] ∧
          But R H H5 ∧ Rw H5 R a ∧ H5 fo = some (.lst acc) ∧ TVs H5 acc S' ∧ S'.length = i ∧ (∀ y ∈ S', Sx y) ∧ TI H5 la x ∧ Sx x ∧ x.length = 3)
        ⟨la, none, none, none, [], [], [0, 1, 2], rfl, bB, rw4, b4 _ _ hfR hf3, .nil, rfl, (fun _ z => nomatch z), TI.but hl3 hR3 (fun _ z => nomatch z) b4, by decide, rfl⟩ (fun _ _ _ _ _ => trivial) ?_ ?_
      · rintro i v _ _ H5 hi ⟨la, u8, u9, u10, acc, S', x, rfl, b5, rw5, hf5, tacc, hSl, hS, hx5, sx, hx3⟩ ⟨rfl, rfl⟩
        have hacc : acc.length = i := by rw [Paired.length tacc]; exact hSl
        -- found.append(last)
        refine ⟨_, rfl, .inl ⟨rfl, _, SqL.of hf5⟩, _, rfl, fo, acc, .ref la, rfl, rfl, hf5, small_line (by omega), ?_⟩
        have tacc6 := tvs_snoc (tacc.but hf5 (fun _ z => nomatch z) (But.upd (o := .lst (acc ++ [.ref la])))) ⟨la, rfl, TI.but hx5 hf5 (fun _ z => nomatch z) But.upd⟩
        have hx6 : TI (upd H5 fo (.lst (acc ++ [.ref la]))) la x := TI.but hx5 hf5 (fun _ z => nomatch z) But.upd
        have hf6 : upd H5 fo (.lst (acc ++ [.ref la])) fo = some (.lst (acc ++ [.ref la])) := upd_same
        have b6 := b5.new (o := .lst (acc ++ [.ref la])) hfoH
        have rw6 := rw5.off (o := .lst (acc ++ [.ref la])) hfR
        have hS6 : ∀ y ∈ S' ++ [x], Sx y := fun y hy => by
          rcases List.mem_append.mp hy with hy | hy
          · exact hS y hy
          · rw [List.mem_singleton.mp hy]; exact sx
        have hSl6 : (S' ++ [x]).length = i + 1 := by simp [hSl]
        generalize upd H5 fo (.lst (acc ++ [.ref la])) = H6 at tacc6 hx6 hf6 b6 rw6
        generalize S' ++ [x] = S6 at tacc6 hS6 hSl6
        generalize acc ++ [.ref la] = acc6 at tacc6 hf6
        -- fresh
        refine ⟨_, rfl, _, rfl, by decide, by decide, fun D1 hD1 => ?_⟩
        refine lc_it walk_r0 (GP H6 D1 (fun j acc _ => acc = (((List.range j).filter fun k : Nat => !decide ((k : Int) ∈ x)).map fun k : Nat => (k : Int)).map V.int)) (gp_start hD1 rfl) (fun _ _ _ _ => trivial) ?_ ?_
        · rintro j v _ H7 hj ⟨s7, acc7, hD7, racc⟩ ⟨rfl, rfl⟩
          have hj7 : j < 7 := hj
          have hl4 : acc7.length ≤ 7 := by
            rw [racc, List.length_map, List.length_map]
            refine Nat.le_trans (List.length_filter_le ..) ?_
            rw [List.length_range]
            omega
          refine ⟨rfl, _, rfl, _, rfl, la, _, rfl, .inr (SqT.of (s7 _ _ hx6)), rfl, flat_ints x, _, rfl, ?_⟩
          by_cases hjx : (j : Int) ∈ x
          · refine ifF (by rw [inV_ints]; simp [hjx]) (gp_skip s7 hD7 (Same.refl _) ?_)
            rw [racc, List.range_succ, List.filter_append]
            simp [hjx]
          · refine ifT (by rw [inV_ints]; simp [hjx]) ⟨_, rfl, gp_grow off_pure hD1 s7 hD7 (Same.refl _) (small_line (by omega)) ?_⟩
            rw [racc, List.range_succ, List.filter_append]
            simp [hjx]
        rintro H7 ⟨s7, fresh, hD7, rfr⟩
        have hfrm : ∀ v ∈ fresh, ∃ y : Int, v = .int y ∧ 0 ≤ y ∧ y ≤ 6 ∧ y ∉ x := fun v hv => by
          rw [rfr] at hv
          obtain ⟨y, hy, rfl⟩ := List.mem_map.mp hv
          obtain ⟨k, hk, rfl⟩ := List.mem_map.mp hy
          obtain ⟨hk1, hk2⟩ := List.mem_filter.mp hk
          have : k < 7 := List.mem_range.mp hk1
          exact ⟨k, rfl, by omega, by omega, by simpa using hk2⟩
        have hfrl : fresh.length ≤ 7 := by
          rw [rfr, List.length_map, List.length_map]
          exact Nat.le_trans (List.length_filter_le ..) (by rw [List.length_range]; decide)
        have hDR : D1 ≠ R := rw6.ne hD1
        have b7 := b6.trans (But.of_same s7)
        have rw7 := rw6.same s7
        have hf7 := s7 _ _ hf6
        have hx7 : TI H7 la x := s7 _ _ hx6
        have tacc7 := tacc6.same s7
        clear tacc6 hx6 hf6 b6 rw6
        -- if fresh != []
        refine ⟨_, rfl, by simp [sizeLine_eq], fun e he => ne_nil_i (SqL.of (same_upd he _ _ (by rw [← rfr]; exact hD7))) (SqL.of upd_same) ⟨_, rfl, ?_⟩⟩
        have s8 : Same H7 (upd H7 e (.lst [])) := same_upd he
        have hD8 := s8 _ _ hD7
        have b8 := b7.trans (But.of_same s8)
        have rw8 := rw7.same s8
        have hf8 := s8 _ _ hf7
        have hx8 : TI (upd H7 e (.lst [])) la x := s8 _ _ hx7
        have tacc8 := tacc7.same s8
        generalize upd H7 e (.lst []) = H8 at s8 hD8 b8 rw8 hf8 hx8 tacc8
        clear s8 tacc7 hx7 hf7 rw7 b7 hD7 s7 he
        by_cases hemp : fresh = []
        · have : (List.filter (fun k : Nat => !decide ((k : Int) ∈ x)) (List.range (7 : Int).toNat)).map (fun k : Nat => (k : Int)) = [] := by
            rw [rfr] at hemp
            exact List.map_eq_nil_iff.mp hemp
          rw [this]
          exact iteF ⟨la, _, _, _, acc6, S6, x, rfl, b8, rw8, hf8, tacc8, hSl6, hS6, hx8, sx, hx3⟩
        have hne : (List.filter (fun k : Nat => !decide ((k : Int) ∈ x)) (List.range (7 : Int).toNat)).map (fun k : Nat => (k : Int)) ≠ [] := fun z => hemp (by rw [rfr, z]; rfl)
        refine ifT (by simpa using hne) ?_
        have hfr1 : 1 ≤ fresh.length := List.length_pos_iff.mpr hemp
        -- rest = list(last)
        refine ⟨_, rfl, la, _, rfl, .inr (SqT.of hx8), fun l hl => ?_⟩
        have hlR := rw8.ne hl
        have hlH : H l = none := b8.gone hl hlR
        have hlf : l ≠ fo := by rintro rfl; rw [hf8] at hl; cases hl
        have hlD : l ≠ D1 := by rintro rfl; rw [hD8] at hl; cases hl
        have s9 : Same H8 (upd H8 l (.lst (x.map V.int))) := same_upd hl
        have hl9 : upd H8 l (.lst (x.map V.int)) l = some (.lst (x.map V.int)) := upd_same
        have b9 := b8.trans (But.of_same s9)
        have rw9 := rw8.same s9
        have hD9 := s9 _ _ hD8
        have hf9 := s9 _ _ hf8
        have tacc9 := tacc8.same s9
        generalize upd H8 l (.lst (x.map V.int)) = H9 at s9 hl9 b9 rw9 hD9 hf9 tacc9
        clear s9 tacc8 hx8 hf8 rw8 b8 hD8 hl
        -- rest.pop(..)
        refine ⟨_, rfl, .inl ⟨rfl, _, SqL.of hl9⟩, _, rfl, _, rfl, l, _, rfl, .inl (SqL.of hl9), R, a, _, rfl, rw9, sc.but b9, by rw [List.length_map]; omega, by rw [List.length_map]; omega, fun H10 y b10 rw10 y0 y1 => ?_⟩
        rw [List.length_map, hx3] at y1
        obtain ⟨k, rfl⟩ : ∃ k : Nat, y = k := ⟨y.toNat, by omega⟩
        obtain ⟨yv, hyv⟩ : ∃ yv, x[k]? = some yv := ⟨_, List.getElem?_eq_getElem (by omega)⟩
        obtain ⟨u9', hR9⟩ : ∃ u, H9 R = some (.lst u) := by obtain ⟨_, _, _, e, _⟩ := rw9; exact ⟨_, e⟩
        have hl10 := b10 _ _ hlR hl9
        refine ⟨l, _, (k : Int), k, .int yv, rfl, rfl, hl10, by omega, by omega, seq_ix (by rw [List.length_map]; omega), by rw [List.getElem?_map, hyv]; rfl, ?_⟩
        have eE : (x.map V.int).eraseIdx k = (x.eraseIdx k).map V.int := by
          rw [List.eraseIdx_eq_take_drop_succ, List.eraseIdx_eq_take_drop_succ, List.map_append, List.map_take, List.map_drop]
        rw [eE]
        have b11 := (b9.trans b10).new (o := .lst ((x.eraseIdx k).map V.int)) hlH
        have rw11 := rw10.off (o := .lst ((x.eraseIdx k).map V.int)) hlR
        have hl11 : upd H10 l (.lst ((x.eraseIdx k).map V.int)) l = some (.lst ((x.eraseIdx k).map V.int)) := upd_same
        have hD11 : upd H10 l (.lst ((x.eraseIdx k).map V.int)) D1 = some (.lst fresh) := by rw [upd_ne (Ne.symm hlD)]; exact b10 _ _ hDR hD9
        have hf11 : upd H10 l (.lst ((x.eraseIdx k).map V.int)) fo = some (.lst acc6) := by rw [upd_ne (Ne.symm hlf)]; exact b10 _ _ hfR hf9
        have tacc11 : TVs (upd H10 l (.lst ((x.eraseIdx k).map V.int))) acc6 S6 := (tacc9.but hR9 (fun _ z => nomatch z) b10).but hl10 (fun _ z => nomatch z) But.upd
        generalize upd H10 l (.lst ((x.eraseIdx k).map V.int)) = H11 at b11 rw11 hl11 hD11 hf11 tacc11
        clear hl10 hR9 b10 rw10 tacc9 hf9 hD9 rw9 b9 hl9
        -- last = tuple(sorted(rest + [pick(..)]))
        refine ⟨_, rfl, _, rfl, _, rfl, R, a, D1, fresh, rfl, rw11, sc.but b11, hD11, hDR, hfr1, by omega, fun H12 v b12 rw12 hv => ?_⟩
        obtain ⟨yy, rfl, yy0, yy6, yyx⟩ := hfrm v hv
        obtain ⟨u11, hR11⟩ : ∃ u, H11 R = some (.lst u) := by obtain ⟨_, _, _, e, _⟩ := rw11; exact ⟨_, e⟩
        refine ⟨by simp [sizeLine_eq], fun l2 hl2 => ?_⟩
        have hl12 := b12 _ _ hlR hl11
        have hel : (x.eraseIdx k).length = 2 := by rw [List.length_eraseIdx_of_lt (by omega), hx3]
        refine ⟨l, l2, _, _, rfl, rfl, same_upd hl2 _ _ hl12, upd_same, by rw [List.length_map, hel, sizeLine_eq]; simp, fun l3 hl3' => ?_⟩
        refine ⟨l3, x.eraseIdx k ++ [yy], rfl, SqL.of (by rw [upd_same, List.map_append]; rfl), fun ns p pp asc hp => ?_⟩
        refine ⟨p, _, rfl, .inl ⟨SqL.of upd_same, fun t ht => ?_⟩⟩
        have s13 : Same H12 (upd (upd (upd (upd H12 l2 (.lst [.int yy])) l3 (.lst ((x.eraseIdx k).map V.int ++ [.int yy]))) p (.lst (ns.map V.int))) t (.tup (ns.map V.int))) := Same.upd' (Same.upd' (Same.upd' (same_upd hl2) hl3') hp) ht
        have hsub : ∀ z ∈ x.eraseIdx k, z ∈ x := fun z hz => (List.eraseIdx_sublist ..).subset hz
        have hmem : ∀ z ∈ ns, z ∈ x ∨ z = yy := fun z hz => by
          rcases List.mem_append.mp (pp.subset hz) with q1 | q1
          · exact .inl (hsub z q1)
          · exact .inr (List.mem_singleton.mp q1)
        have hxnd : x.Nodup := sx.up.imp fun {a b} (h : a < b) => by omega
        have hnd : (x.eraseIdx k ++ [yy]).Nodup := List.nodup_append.mpr ⟨hxnd.sublist (List.eraseIdx_sublist ..), by simp, fun a ha b hb => by rw [List.mem_singleton.mp hb]; rintro rfl; exact yyx (hsub _ ha)⟩
        have hnl : ns.length = 3 := by rw [pp.length_eq, List.length_append, hel]; rfl
        refine ⟨t, _, _, _, acc6, S6, ns, rfl, (b11.trans b12).trans (But.of_same s13), rw12.same s13, s13 _ _ (b12 _ _ hfR hf11), (tacc11.but hR11 (fun _ z => nomatch z) b12).same s13, hSl6, hS6, upd_same, ?_, hnl⟩
        refine ⟨by omega, by omega, fun z hz => ?_, fun z hz => ?_, strict_of asc (pp.nodup_iff.mpr hnd)⟩
        · rcases hmem z hz with q1 | q1
          · exact sx.lo z q1
          · omega
        · rcases hmem z hz with q1 | q1
          · exact sx.hi z q1
          · omega
      · rintro _ H5 ⟨la, u8, u9, u10, acc, S', x, rfl, b5, rw5, hf5, tacc, hSl, hS, hx5, sx, hx3⟩
        refine ⟨_, rfl, fo, acc, rfl, .inl ⟨SqL.of hf5, fun t ht => ?_⟩⟩
        exact q _ t acc S' (b5.trans (But.of_same (same_upd ht))) (rw5.same (same_upd ht)) upd_same (tacc.same (same_upd ht)) (Sxs.drawn ⟨by rw [hSl]; omega, hS⟩)
    refine ifF (decide_eq_false (fun z => h1 (V.int.inj z))) ?_
    exact ⟨_, rfl, q H2 tb xs S bA rw2 htb tS hdr⟩
end
end K96

/-! _law_matching. -/
namespace K96
open PySem PySem.Spec PyProof.Rows L2
section
variable {X : Cx} {K : PySem.W.Frag}
/-- x not in t, t a tuple -/
def rNotInT (K : PySem.W.Frag) : R2 := fun x y H Q => ∃ d ds, Dp K H x d ∧ Dp K H y (.tuple ds) ∧ SeqAt.shaped d = true ∧ SeqAt.shaped (.tuple ds) = true ∧ Q (.bl (!ds.any fun z => PyData.eqv z d)) H
theorem op_notInT (hu : X.A.units + 65 < cLine) : OpR X (compareOp .NotIn) (rNotInT X.K) := by
  rintro pins s σ H x y v u Q I rx ry ⟨d, ds, hd, he, sd, se, q⟩
  obtain ⟨as, r1⟩ := Dp.reads I d x v hd rx
  obtain ⟨bs, r2⟩ := Dp.reads I (.tuple ds) y u he ry
  exact SeqAt.notIn_tuple_reads r2 r1 (SeqAt.canLay_of_shaped se) (SeqAt.canLay_of_shaped sd) (room_in_shaped sd hu) ⟨.bl _, H, I, rfl, q⟩
theorem op_notInTK (hK : X.K = K) (hu : X.A.units + 65 < cLine) : OpR X (compareOp .NotIn) (rNotInT K) := by subst hK; exact op_notInT hu
end
theorem notInT_f {K : PySem.W.Frag} {H : Hp} {Q : VK} {a l : Addr} {x : List Int} {xs : List V} {L : List (List Int)} (hx : TI H a x) (hl : SqT K H l xs) (tL : TVs H xs L) (q : Q (.bl (!decide (x ∈ L))) H) : rNotInT K (.ref a) (.ref l) H Q :=
  ⟨_, _, dp_f hx, .tup hl (dpAll_tvs tL), fD_shaped x, fDt_shaped L, by rw [any_fD]; exact q⟩
def pD (p : Fa × Fa) : PyData := .tuple [fD p.1, fD p.2]
theorem dpAll_prs {K : PySem.W.Frag} {H : Hp} {xs : List V} {M : List (Fa × Fa)} (h : PrTs H xs M) : DpAll K H xs (M.map pD) := by
  induction h with
  | nil => exact .nil
  | cons h t ih =>
    obtain ⟨t, a, b, rfl, h1, h2, h3⟩ := h
    exact .cons (.tup (SqT.of h1) (.cons (dp_f h2) (.cons (dp_f h3) .nil))) ih
theorem pDs_lay : ∀ l : List (Fa × Fa), PyData.canLayAll0 (l.map pD) = true
  | [] => by simp [PyData.canLayAll0]
  | a :: r => by simp [PyData.canLayAll0, PyData.canLay0, pD, fD_lay, pDs_lay r]
theorem pDs_depth : ∀ l : List (Fa × Fa), PyData.depthAll (l.map pD) ≤ 3
  | [] => by simp [PyData.depthAll]
  | a :: r => by
    have h1 := pDs_depth r
    have h2 := fD_depth a.1
    have h3 := fD_depth a.2
    simp [PyData.depthAll, PyData.depth, pD]
    omega
theorem pDs_shaped (l : List (Fa × Fa)) : SeqAt.shaped (.list (l.map pD)) = true := by
  have h1 := pDs_depth l
  have h2 : PyData.depth (.list (l.map pD)) ≤ 64 := by
    simp only [PyData.depth]
    omega
  show (PyData.canLay0 (.list (l.map pD)) && decide (PyData.depth (.list (l.map pD)) ≤ 64)) = true
  rw [Bool.and_eq_true]
  exact ⟨by simp only [PyData.canLay0]; exact pDs_lay l, decide_eq_true h2⟩
theorem ne_nil_p {K : PySem.W.Frag} {H : Hp} {Q : VK} {l e : Addr} {xs : List V} {M : List (Fa × Fa)} (hl : SqL K H l xs) (h : PrTs H xs M) (he : SqL K H e []) (q : Q (.bl (!decide (M = []))) H) : rNeD K (.ref l) (.ref e) H Q := by
  refine ⟨_, _, .lst hl (dpAll_prs h), .lst he .nil, pDs_shaped M, pDs_shaped [], ?_⟩
  have : PyData.eqv (.list (M.map pD)) (.list []) = decide (M = []) := by
    cases M with
    | nil => simp [PyData.eqv, PyData.eqvAll]
    | cons a r => simp [PyData.eqv, PyData.eqvAll]
  rw [this]
  exact q
/-- pairs so far, what is left -/
structure MatL (F : List Fa) (M : List (Fa × Fa)) (L : List Fa) : Prop where
  mat : Mat F M
  left : ∀ x ∈ L, x ∈ F
  nd : (ends M ++ L).Nodup
theorem MatL.step {F : List Fa} {M : List (Fa × Fa)} {L : List Fa} (m : MatL F M L) {x y : Fa} (hx : x ∈ L) (hy : y ∈ L) (h2 : 2 ≤ y.length) (hd : Dn x y) : MatL F (M ++ [(x, y)]) (L.filter fun z => !decide (z ∈ [x, y])) := by
  have hnd := List.nodup_append.mp m.nd
  have hxy : x ≠ y := fun e => by have := hd.len; rw [e] at this; omega
  have hend : (ends (M ++ [(x, y)])).Nodup := by
    rw [ends_snoc]
    refine List.nodup_append.mpr ⟨hnd.1, by simpa using hxy, fun a ha b hb => ?_⟩
    rcases List.mem_cons.mp hb with e | e
    · rw [e]; exact hnd.2.2 a ha x hx
    · rw [List.mem_singleton.mp e]; exact hnd.2.2 a ha y hy
  refine ⟨⟨fun p hp => ?_, fun p hp => ?_, fun p hp => ?_, hend⟩, fun z hz => m.left z (List.mem_filter.mp hz).1, ?_⟩
  · rcases List.mem_append.mp hp with hp | hp
    · exact m.mat.big p hp
    · rw [List.mem_singleton.mp hp]; exact m.left y hy
  · rcases List.mem_append.mp hp with hp | hp
    · exact m.mat.two p hp
    · rw [List.mem_singleton.mp hp]; exact h2
  · rcases List.mem_append.mp hp with hp | hp
    · exact m.mat.down p hp
    · rw [List.mem_singleton.mp hp]; exact hd
  · refine List.nodup_append.mpr ⟨hend, hnd.2.1.filter _, fun a ha b hb => ?_⟩
    rw [ends_snoc] at ha
    obtain ⟨hb1, hb2⟩ := List.mem_filter.mp hb
    rcases List.mem_append.mp ha with ha | ha
    · exact hnd.2.2 a ha b hb1
    · rintro rfl
      simp at ha hb2
      rcases ha with e | e
      · exact hb2.1 e
      · exact hb2.2 e
theorem MatL.len {F : List Fa} (fc : Fc F) {M : List (Fa × Fa)} {L : List Fa} (m : MatL F M L) : L.length ≤ 225 := Nat.le_trans (nodup_sub_length (List.nodup_append.mp m.nd).2.1 m.left) fc.few
section
variable {P : Program} {w : World} {K : PySem.W.Frag} {mg : Str → Option Value} {base : Heap} {C : Addr}

def spMatching (K : PySem.W.Frag) : Sp := fun vs H Q _ => ∃ (R a l : Addr) (xs : List V) (F : List Fa), vs = [.ref R, .ref l] ∧ Rw H R a ∧ Scr K H R a ∧ H l = some (.lst xs) ∧ l ≠ R ∧ TVs H xs F ∧ Fc F ∧
  ∀ H' t ps M, But R H H' → Rw H' R a → PlT H' t ps → PrTs H' ps M → Mat F M → Q (.ref t) H'
abbrev n_matching : List Str := ["_law_row", "_law_faces_here", "_law_left", "_law_found", "_law_turn", "_law_some", "_law_big", "_law_at", "_law_pair", "_law_face"]
theorem sc_matching : FnScope n_matching ["_law_row", "_law_faces_here"] (defScope (top 54)) := ⟨rfl, rfl, rfl, by decide +kernel, rfl, by decide +kernel, by decide +kernel⟩
theorem ok_matching (N : Nm mg) (D : Def K mg "_law_matching" (top 54)) (c1 : Cal P w K mg base "_law_taken" 1 ["_law_row", "_law_many"] (spTaken K))
    (c2 : Cal P w K mg base "_law_pick" 2 ["_law_row", "_law_things"] (spPick K)) : Cal P w K mg base "_law_matching" 3 ["_law_row", "_law_faces_here"] (spMatching K) := by
  obtain ⟨f1, fd1, G_taken, g_taken, k_taken, b_taken⟩ := c1.ex
  obtain ⟨f2, fd2, G_pick, g_pick, k_pick, b_pick⟩ := c2.ex
  refine D.ok sc_matching (fun vs H Q E h => ?_) (fun _ _ _ _ _ _ us hl => match us, hl with | [_, _], _ => rfl) (fun f cdv A outer s H vs Q E hr h => ?_)
  · obtain ⟨R, a, l, xs, F, rfl, _⟩ := h
    rfl
  · obtain ⟨R, a, l, xs, F, rfl, rw0, sc, hl, hlR, tF, fc, q⟩ := h
    have hr1 : Room 1 _ := hr.mono (by decide)
    have hu64 : (A.deeper (envOfC "_law_matching" (defScope (top 54)) s.heap.objs.size f cdv)).units + 64 < cLine := hr.units
    have hu65 : (A.deeper (envOfC "_law_matching" (defScope (top 54)) s.heap.objs.size f cdv)).units + 65 < cLine := by have := hr.un; omega
    refine ⟨_, pss_cons (ps_par (i := 2) (j := 3) (by rfl) sc_matching.nd rfl rfl (by decide) rfl rfl (pa_cons (pe_callTy call_list_of (by rfl) N.list (by decide +kernel) (pa_cons (pv 1) pa_nil)) (pa_cons (pe_lst pa_nil) pa_nil)) (by rfl))
      (pss_cons (ps_for PassesOwn.never rfl (pi_range1 (by rfl) N.range (pa_cons (pe_call G_taken hr1 (by rfl) g_taken k_taken b_taken .nil pass0 (pa_cons (pv 0) (pa_cons (pe_op op_add (pe_callB call_len_seq (by rfl) N.len PySem.boot_len (pa_cons (pv 1) pa_nil)) pe_int) pa_nil))) pa_nil)) (pg_name (i := 4) sc_matching.nd rfl (Or.inl rfl))
      (pss_cons (ps_set (i := 5) sc_matching.nd rfl (Or.inl rfl) (pe_lst pa_nil))
      (pss_cons (ps_for PassesOwn.never rfl (pi_list (pv 2)) (pg_name (i := 6) sc_matching.nd rfl (Or.inl rfl))
      (pss_one (ps_for PassesOwn.never rfl (pi_range1 (by rfl) N.range (pa_cons (pe_callB call_len_seq (by rfl) N.len PySem.boot_len (pa_cons (pv 6) pa_nil)) pa_nil)) (pg_name (i := 7) sc_matching.nd rfl (Or.inl rfl))
      (pss_one (ps_if (PW.pt (pw_and (pt_cmpR op_gt (pe_callB call_len_seq (by rfl) N.len PySem.boot_len (pa_cons (pv 6) pa_nil)) pe_int (nomark _)) (pw_and1 (pt_cmpR (op_inD hu65) (pe_erase (pv 6) (pv 7) (pv 6) (pv 7)) (pv 2) rfl)))) (pss_one (ps_expr (pe_bm PySem.F.plainAttrs_list PySem.F.slot_list_append PySem.F.type_list_append mt_append (pv 5) (pa_cons (pe_tup (pa_cons (pe_erase (pv 6) (pv 7) (pv 6) (pv 7)) (pa_cons (pv 6) pa_nil))) pa_nil)))) pss_nil)))))
      (pss_one (ps_if (pt_cmpR (op_neD hu64) (pv 5) (pe_lst pa_nil) (nomark _)) (pss_cons (ps_set (i := 8) sc_matching.nd rfl (Or.inr rfl) (pe_call G_pick hr (by rfl) g_pick k_pick b_pick .nil pass0 (pa_cons (pv 0) (pa_cons (pv 5) pa_nil))))
      (pss_cons (ps_expr (pe_bm PySem.F.plainAttrs_list PySem.F.slot_list_append PySem.F.type_list_append mt_append (pv 3) (pa_cons (pv 8) pa_nil)))
      (pss_one (ps_setLc (i := 2) (own := [("_law_face", 9)]) (g := gName 9) rfl sc_matching.nd rfl rfl (sw_true rfl rfl rfl (by decide +kernel)) (pi_list (pv 2)) (blkOk_by (N := n_matching) (sc := defScope (top 54)) (by decide +kernel)) (fun _ _ _ _ _ => (pg_name (i := 9) sc_matching.nd rfl (Or.inl rfl))) (fun _ _ _ _ _ => (pts_one (pt_cmpR (op_notInTK (K := K) rfl hu65) (pv 9) (pv 8) rfl))) (fun _ _ _ _ _ => by exact (pv 9)))))) pss_nil)))))
      (pss_one (ps_ret (pe_callTy call_tupleP (by rfl) N.tuple (by decide +kernel) (pa_cons (pv 3) pa_nil))))), ?_⟩
    have hxl := Paired.length tF
    have hF := fc.few
    -- left, found
    refine ⟨_, rfl, l, xs, rfl, .inl (SqL.of hl), fun lf hlf => ⟨by simp [sizeLine_eq], fun fo hfo => ⟨_, _, rfl, ?_⟩⟩⟩
    have s1 : Same H (upd (upd H lf (.lst xs)) fo (.lst [])) := Same.upd' (same_upd hlf) hfo
    have hlf1 : upd (upd H lf (.lst xs)) fo (.lst []) lf = some (.lst xs) := same_upd hfo _ _ upd_same
    have hfo1 : upd (upd H lf (.lst xs)) fo (.lst []) fo = some (.lst []) := upd_same
    have hfoH : H fo = none := (same_upd hlf).free hfo
    have hlfR := rw0.ne hlf
    have hfoR := rw0.ne hfoH
    have nlf0 : lf ≠ fo := by rintro rfl; rw [upd_same] at hfo; cases hfo
    generalize upd (upd H lf (.lst xs)) fo (.lst []) = H1 at s1 hlf1 hfo1
    have rw1 := rw0.same s1
    have tF1 := tF.same s1
    -- for turn in range(taken(row, len(faces) + 1))
    refine ⟨_, rfl, _, rfl, l, xs, rfl, .inl (SqL.of (s1 _ _ hl)), _, _, rfl, rfl, R, a, _, rfl, rw1, sc.but (But.of_same s1), by omega, by omega, fun H2 z b2 rw2 z0 z1 => ⟨_, rfl, by omega, by omega, ?_⟩⟩
    obtain ⟨uR, hR1⟩ : ∃ u, H1 R = some (.lst u) := by obtain ⟨_, _, _, e, _⟩ := rw1; exact ⟨_, e⟩
    refine for_it walk_r0 (fun i σ H5 => ∃ (lf : Addr) (u4 u5 u6 u7 u8 : Option V) (xsL acc : List V) (L : List Fa) (M : List (Fa × Fa)), σ = [some (.ref R), some (.ref l), some (.ref lf), some (.ref fo), u4, u5, u6, u7, u8, none] ∧
        But R H H5 ∧ Rw H5 R a ∧ H5 lf = some (.lst xsL) ∧ TVs H5 xsL L ∧ H5 fo = some (.lst acc) ∧ PrTs H5 acc M ∧ MatL F M L ∧ lf ≠ R ∧ lf ≠ fo)
      ⟨lf, none, none, none, none, none, xs, [], F, [], rfl, (But.of_same s1).trans b2, rw2, b2 _ _ hlfR hlf1, tF1.but hR1 (fun _ z => nomatch z) b2, b2 _ _ hfoR hfo1, .nil,
        ⟨⟨fun _ z => (nomatch z), fun _ z => (nomatch z), fun _ z => (nomatch z), List.nodup_nil⟩, fun _ h => h, fc.nd⟩, hlfR, nlf0⟩ (fun _ _ _ _ _ => trivial) ?_ ?_
    · rintro i v _ _ H5 hi ⟨lf, u4, u5, u6, u7, u8, xsL, acc, L, M, rfl, b5, rw5, hlf5, tL, hfo5, tM, ml, nlfR, nlf⟩ ⟨rfl, rfl⟩
      have hLl := ml.len fc
      have hxL := Paired.length tL
      -- some = []
      refine ⟨by simp [sizeLine_eq], fun so hso => ?_⟩
      have hsoR := rw5.ne hso
      have nso : so ≠ fo := by rintro rfl; rw [hfo5] at hso; cases hso
      -- for big in left
      refine ⟨_, rfl, lf, rfl, ⟨_, SqL.of (same_upd hso _ _ hlf5)⟩, for_it walk_list (fun i' σ H6 => ∃ (u6 u7 : Option V) (accS : List V) (P : List (Fa × Fa)), σ = [some (.ref R), some (.ref l), some (.ref lf), some (.ref fo), some (.int i), some (.ref so), u6, u7, u8, none] ∧
          Same H5 H6 ∧ H6 so = some (.lst accS) ∧ PrTs H6 accS P ∧ P.length ≤ 4 * i' ∧ ∀ p ∈ P, p.2 ∈ L ∧ 2 ≤ p.2.length ∧ p.1 ∈ L ∧ Dn p.1 p.2)
        ⟨u6, u7, [], [], rfl, same_upd hso, upd_same, .nil, Nat.le_refl _, fun _ z => nomatch z⟩ (fun i' σ H6 _ ⟨_, _, _, _, _, s6, _⟩ => SqL.of (s6 _ _ hlf5)) ?_ ?_⟩
      · rintro i' v _ _ H6 hi' ⟨u6, u7, accS, P, rfl, s6, hso6, tP, hPl, hP⟩ ⟨rfl, hv⟩
        obtain ⟨y, hy, b, rfl, hb⟩ := tvs_at tL hv
        have hyL : y ∈ L := List.mem_of_getElem? hy
        have hy4 := fc.len y (ml.left y hyL)
        -- for at in range(len(big))
        refine ⟨_, rfl, b, y.map V.int, rfl, .inr (SqT.of (s6 _ _ hb)), _, rfl, rng1 (by rw [List.length_map]; omega) ?_⟩
        refine for_it walk_r1 (fun j σ H7 => ∃ (u7 : Option V) (accS : List V) (P : List (Fa × Fa)), σ = [some (.ref R), some (.ref l), some (.ref lf), some (.ref fo), some (.int i), some (.ref so), some (.ref b), u7, u8, none] ∧
            Same H5 H7 ∧ H7 so = some (.lst accS) ∧ PrTs H7 accS P ∧ P.length ≤ 4 * i' + j ∧ ∀ p ∈ P, p.2 ∈ L ∧ 2 ≤ p.2.length ∧ p.1 ∈ L ∧ Dn p.1 p.2)
          ⟨u7, accS, P, rfl, s6, hso6, tP, by omega, hP⟩ (fun _ _ _ _ _ => trivial) ?_ ?_
        · rintro j v _ _ H7 hj ⟨u7, accS, P, rfl, s7, hso7, tP7, hPl, hP⟩ ⟨rfl, rfl⟩
          have hj' : j < y.length := by simpa using hj
          have hb7 : TI H7 b y := s7 _ _ hb
          have hi'L : i' < 225 := by omega
          refine ⟨_, rfl, b, _, rfl, .inr (SqT.of hb7), _, _, rfl, rfl, _, rfl, ?_⟩
          by_cases h1 : 1 < y.length
          · refine ifT (decide_eq_true (by rw [List.length_map]; omega)) ?_
            refine ⟨b, y, j, rfl, rfl, hb7, hj', by omega, fun H8 c s8 hc => ⟨_, rfl, in_f hc (SqL.of (s8 _ _ (s7 _ _ hlf5))) ((tL.same s7).same s8) ⟨_, rfl, ?_⟩⟩⟩
            have s8' := s7.trans s8
            have hso8 := s8 _ _ hso7
            have tP8 := tP7.same s8
            by_cases hin : y.eraseIdx j ∈ L
            · refine ifT (decide_eq_true hin) ?_
              refine ⟨_, rfl, .inl ⟨rfl, _, SqL.of hso8⟩, b, y, j, rfl, rfl, s8 _ _ hb7, hj', by omega, fun H9 c9 s9 hc9 => ⟨_, rfl, by simp [sizeLine_eq], fun t ht => ?_⟩⟩
              have s10 := Same.upd' (o := .tup [.ref c9, .ref b]) s9 ht
              have hso10 := s10 _ _ hso8
              refine ⟨so, accS, .ref t, rfl, rfl, hso10, small_line (by rw [Paired.length tP8]; omega), ?_⟩
              have pr : PrT (upd H9 t (.tup [.ref c9, .ref b])) (.ref t) (y.eraseIdx j, y) := ⟨t, c9, b, rfl, upd_same, same_upd ht _ _ hc9, s10 _ _ (s8 _ _ hb7)⟩
              refine ⟨_, _, P ++ [(y.eraseIdx j, y)], rfl, fun b' o e => ?_, upd_same, Paired.snoc ((tP8.same s10).but hso10 (fun _ z => nomatch z) But.upd) (pr.but hso10 (fun _ z => nomatch z) But.upd), by simp; omega, fun p hp => ?_⟩
              · rw [upd_ne (ne_of_none e hso)]
                exact s10 _ _ (s8' b' o e)
              · rcases List.mem_append.mp hp with hp | hp
                · exact hP p hp
                · rw [List.mem_singleton.mp hp]
                  exact ⟨hyL, h1, hin, j, hj', rfl⟩
            · refine ifF (decide_eq_false hin) ⟨_, accS, P, rfl, s8', hso8, tP8, by omega, hP⟩
          · refine ifF (decide_eq_false (by rw [List.length_map]; omega)) (iteF ⟨_, accS, P, rfl, s7, hso7, tP7, by omega, hP⟩)
        · rintro _ H7 ⟨u7, accS, P, rfl, s7, hso7, tP7, hPl, hP⟩
          rw [List.length_map] at hPl
          exact ⟨_, _, accS, P, rfl, s7, hso7, tP7, by omega, hP⟩
      · rintro _ H6 ⟨u6, u7, accS, P, rfl, s6, hso6, tP, hPl, hP⟩
        -- if some != []
        refine ⟨_, rfl, by simp [sizeLine_eq], fun e he => ne_nil_p (SqL.of (same_upd he _ _ hso6)) (tP.same (same_upd he)) (SqL.of upd_same) ⟨_, rfl, ?_⟩⟩
        have s7 : Same H5 (upd H6 e (.lst [])) := Same.upd' s6 he
        have hso7 := same_upd (o := .lst []) he _ _ hso6
        have tP7 := tP.same (same_upd (o := .lst []) he)
        generalize upd H6 e (.lst []) = H7 at s7 hso7 tP7
        have b7 := b5.trans (But.of_same s7)
        have rw7 := rw5.same s7
        have hlf7 := s7 _ _ hlf5
        have hfo7 := s7 _ _ hfo5
        have tL7 := tL.same s7
        have tM7 := tM.same s7
        by_cases hPe : P = []
        · exact ifF (by simp [hPe]) ⟨lf, _, _, _, _, _, xsL, acc, L, M, rfl, b7, rw7, hlf7, tL7, hfo7, tM7, ml, nlfR, nlf⟩
        refine ifT (by simpa using hPe) ?_
        -- pair = pick(row, some)
        have hal := Paired.length tP7
        have hP1 : 1 ≤ P.length := List.length_pos_iff.mpr hPe
        refine ⟨_, rfl, _, rfl, R, a, so, accS, rfl, rw7, sc.but b7, hso7, hsoR, by omega, by omega, fun H8 v b8 rw8 hv => ?_⟩
        obtain ⟨⟨x, y⟩, hp, pr⟩ := paired_mem tP7 hv
        obtain ⟨hyL, hy2, hxL, hd⟩ := hP _ hp
        obtain ⟨u7', hR7⟩ : ∃ u, H7 R = some (.lst u) := by obtain ⟨_, _, _, e, _⟩ := rw7; exact ⟨_, e⟩
        have b8' := b7.trans b8
        have hlf8 := b8 _ _ nlfR hlf7
        have hfo8 := b8 _ _ hfoR hfo7
        have tL8 := tL7.but hR7 (fun _ z => nomatch z) b8
        have tM8 := tM7.but hR7 (fun _ z => nomatch z) b8
        have pr8 := pr.but hR7 (fun _ z => nomatch z) b8
        have hfew := ml.mat.few fc
        have hacl := Paired.length tM8
        -- found.append(pair)
        refine ⟨_, rfl, .inl ⟨rfl, _, SqL.of hfo8⟩, _, rfl, fo, acc, v, rfl, rfl, hfo8, small_line (by omega), ?_⟩
        have b9 := b8'.new (o := .lst (acc ++ [v])) hfoH
        have rw9 := rw8.off (o := .lst (acc ++ [v])) hfoR
        have hlf9 : upd H8 fo (.lst (acc ++ [v])) lf = some (.lst xsL) := by rw [upd_ne nlf]; exact hlf8
        have tL9 : TVs (upd H8 fo (.lst (acc ++ [v]))) xsL L := tL8.but hfo8 (fun _ z => nomatch z) But.upd
        have pr9 : PrT (upd H8 fo (.lst (acc ++ [v]))) v (x, y) := pr8.but hfo8 (fun _ z => nomatch z) But.upd
        have tM9 : PrTs (upd H8 fo (.lst (acc ++ [v]))) (acc ++ [v]) (M ++ [(x, y)]) := Paired.snoc (tM8.but hfo8 (fun _ z => nomatch z) But.upd) pr9
        have hfo9 : upd H8 fo (.lst (acc ++ [v])) fo = some (.lst (acc ++ [v])) := upd_same
        generalize upd H8 fo (.lst (acc ++ [v])) = H9 at b9 rw9 hlf9 tL9 pr9 tM9 hfo9
        obtain ⟨t, pa, pb, rfl, ht, hpa, hpb⟩ := pr9
        -- left = [..]
        refine ⟨_, rfl, lf, rfl, ⟨_, SqL.of hlf9⟩, fun D1 hD1 => ?_⟩
        refine lc_it walk_list (GP H9 D1 (fun k acc H => ∃ L', TVs H acc L' ∧ L' = (L.take k).filter fun z => !decide (z ∈ [x, y]))) (gp_start hD1 ⟨[], .nil, rfl⟩) (fun k H10 _ h10 => h10.1.seq (SqL.of hlf9)) ?_ ?_
        · rintro k v _ H10 hk ⟨s10, acc10, hD10, L', tacc, rfl⟩ ⟨rfl, hv⟩
          obtain ⟨zz, hzz, c, rfl, hc⟩ := tvs_at tL9 hv
          have hc10 : TI H10 c zz := s10 _ _ hc
          have two : TVs H10 [.ref pa, .ref pb] [x, y] := .cons ⟨pa, rfl, s10 _ _ hpa⟩ (.cons ⟨pb, rfl, s10 _ _ hpb⟩ .nil)
          have hla : acc10.length ≤ 225 := by
            rw [Paired.length tacc]
            exact Nat.le_trans (List.length_filter_le ..) (Nat.le_trans (List.length_take_le' ..) hLl)
          refine ⟨rfl, _, rfl, _, rfl, notInT_f hc10 (SqT.of (s10 _ _ ht)) two ⟨_, rfl, ?_⟩⟩
          by_cases hz : zz ∈ [x, y]
          · refine ifF (by rw [decide_eq_true hz]; rfl) (gp_skip s10 hD10 (Same.refl _) ⟨_, tacc, ?_⟩)
            rw [take_snoc hzz, List.filter_append, show List.filter (fun z => !decide (z ∈ [x, y])) [zz] = [] by rw [List.filter_cons_of_neg (by rw [decide_eq_true hz]; simp)]; rfl, List.append_nil]
          · refine ifT (by rw [decide_eq_false hz]; rfl) ⟨_, rfl, gp_grow off_tvs hD1 s10 hD10 (Same.refl _) (small_line (by omega)) ⟨_, tvs_snoc tacc ⟨c, rfl, hc10⟩, ?_⟩⟩
            rw [take_snoc hzz, List.filter_append, show List.filter (fun z => !decide (z ∈ [x, y])) [zz] = [zz] by rw [List.filter_cons_of_pos (by rw [decide_eq_false hz]; rfl)]; rfl]
        · rintro H10 ⟨s10, acc10, hD10, L', tacc, rfl⟩
          rw [Paired.length tL9, List.take_length] at tacc
          have nDf : D1 ≠ fo := by rintro rfl; rw [hfo9] at hD1; cases hD1
          exact ⟨D1, _, _, _, _, _, acc10, _, _, M ++ [(x, y)], rfl, b9.trans (But.of_same s10), rw9.same s10, hD10, tacc, s10 _ _ hfo9, tM9.same s10, ml.step hxL hyL hy2 hd, rw9.ne hD1, nDf⟩
    · rintro _ H5 ⟨lf, u4, u5, u6, u7, u8, xsL, acc, L, M, rfl, b5, rw5, hlf5, tL, hfo5, tM, ml, nlfR, nlf⟩
      refine ⟨_, rfl, fo, acc, rfl, SqL.of hfo5, fun p o hp ho hc => ?_⟩
      exact q _ p acc M (b5.trans (But.of_same (same_upd hp))) (rw5.same (same_upd hp)) ⟨o, ho, hc, upd_same⟩ (tM.same (same_upd hp)) ml.mat
end
end K96

/-! Plain: the search for a ring, and what its failure tells. -/
namespace K96
/-- the partner of x -/
def upOf (M : List (Fa × Fa)) (x : Fa) : Fa := ((M.find? fun p => p.1 == x).map (·.2)).getD []
theorem upOf_mem {M : List (Fa × Fa)} (hnd : (keys M).Nodup) {x y : Fa} (h : (x, y) ∈ M) : upOf M x = y := by
  induction M with
  | nil => cases h
  | cons p r ih =>
    have hn := List.nodup_cons.mp (show (p.1 :: keys r).Nodup from hnd)
    unfold upOf
    rcases List.mem_cons.mp h with rfl | h
    · rw [List.find?_cons_of_pos (by simp)]; rfl
    · have : p.1 ≠ x := fun e => hn.1 (by rw [e]; exact List.mem_map.mpr ⟨_, h, rfl⟩)
      rw [List.find?_cons_of_neg (by simpa using this)]
      exact ih hn.2 h
/-- what is found new from x -/
def nxt (M : List (Fa × Fa)) (met : List Fa) (x : Fa) : List Fa := (ers (upOf M x)).filter fun z => !decide (z = x) && (decide (z ∈ keys M) && !decide (z ∈ met))
def more (M : List (Fa × Fa)) (met here : List Fa) : List Fa := here.flatMap (nxt M met)
theorem mem_nxt {M : List (Fa × Fa)} {met : List Fa} {x z : Fa} : z ∈ nxt M met x ↔ Dn z (upOf M x) ∧ z ≠ x ∧ z ∈ keys M ∧ z ∉ met := by
  unfold nxt
  rw [List.mem_filter, mem_ers]
  simp
/-- how many of K stand in S -/
def dc (K S : List Fa) : Nat := K.countP fun k => decide (k ∈ S)
theorem dc_le (K S : List Fa) : dc K S ≤ K.length := List.countP_le_length
theorem dc_app {K S T : List Fa} (h : ∀ x ∈ T, x ∉ S) : dc K (S ++ T) = dc K S + dc K T := by
  unfold dc
  induction K with
  | nil => rfl
  | cons k r ih =>
    rw [List.countP_cons, List.countP_cons, List.countP_cons, ih]
    by_cases h1 : k ∈ S
    · have h2 : k ∉ T := fun z => h k z h1
      simp [h1, h2]
      omega
    · by_cases h2 : k ∈ T
      · simp [h1, h2]
        omega
      · simp [h1, h2]
theorem dc_sub {K S l : List Fa} (hl : l.Nodup) (h : ∀ x ∈ l, x ∈ S ∧ x ∈ K) : l.length ≤ dc K S := by
  unfold dc
  rw [List.countP_eq_length_filter]
  exact nodup_sub_length hl fun x hx => List.mem_filter.mpr ⟨(h x hx).2, decide_eq_true (h x hx).1⟩
theorem dc_pos {K S : List Fa} {x : Fa} (h1 : x ∈ S) (h2 : x ∈ K) : 1 ≤ dc K S := dc_sub (l := [x]) (by simp) fun y hy => by rw [List.mem_singleton.mp hy]; exact ⟨h1, h2⟩
theorem flat_le {α β : Type} {f : α → List β} {n : Nat} : ∀ {l : List α}, (∀ x ∈ l, (f x).length ≤ n) → (l.flatMap f).length ≤ n * l.length
  | [], _ => Nat.zero_le _
  | a :: r, h => by
    have h1 := h a List.mem_cons_self
    have h2 := flat_le fun x hx => h x (List.mem_cons_of_mem a hx)
    rw [List.flatMap_cons, List.length_append, List.length_cons, Nat.mul_succ]
    omega
theorem cube_le (e : Nat) : (min 3 e) ^ 3 ≤ 3 ^ e := by
  match e with
  | 0 => decide
  | 1 => decide
  | 2 => decide
  | n + 3 =>
    rw [Nat.min_eq_left (by omega)]
    exact Nat.pow_le_pow_right (by decide) (by omega)
/-- the keys of one length -/
def kf (M : List (Fa × Fa)) (n : Nat) : List Fa := (keys M).filter fun x => x.length == n
/-- the greatest number whose cube is no more than 3 ^ 35 -/
def bB : Nat := 368480
structure BF (M : List (Fa × Fa)) (f : Fa) (k : Nat) (met here : List Fa) : Prop where
  hk : ∀ x ∈ here, x ∈ kf M f.length
  mm : ∀ x ∈ met, x ∈ kf M f.length
  fm : f ∉ met
  cl : ∀ x, (x = f ∨ x ∈ met) → x ∉ here → ∀ z, Edge M x z → z ∈ met
  cube : here.length ^ 3 ≤ 3 ^ dc (kf M f.length) met
  cnt : here = [] ∨ k ≤ dc (kf M f.length) met
  len : met.length ≤ dc (kf M f.length) met * bB
theorem BF.start {M : List (Fa × Fa)} {f : Fa} (hf : f ∈ keys M) : BF M f 0 [] [f] where
  hk := fun x hx => by rw [List.mem_singleton.mp hx]; exact List.mem_filter.mpr ⟨hf, by simp⟩
  mm := fun _ z => nomatch z
  fm := fun z => nomatch z
  cl := fun x hx hn => by
    rcases hx with e | e
    · exact absurd (List.mem_singleton.mpr e) hn
    · cases e
  cube := by show 1 ^ 3 ≤ _; rw [Nat.one_pow]; exact Nat.pow_pos (by decide)
  cnt := .inr (Nat.zero_le _)
  len := Nat.zero_le _
section
variable {F : List Fa} {M : List (Fa × Fa)} (fc : Fc F) (mat : Mat F M)
include fc mat
theorem pair_of {x : Fa} (h : x ∈ keys M) : (x, upOf M x) ∈ M ∧ Dn x (upOf M x) ∧ upOf M x ∈ F := by
  obtain ⟨p, hp, rfl⟩ := List.mem_map.mp h
  have e := upOf_mem (x := p.1) (y := p.2) mat.fsts hp
  rw [e]
  exact ⟨hp, mat.down p hp, mat.big p hp⟩
theorem nxt_nd {met : List Fa} {x : Fa} (h : x ∈ keys M) : (nxt M met x).Nodup := (ers_nd (fc.up _ (pair_of fc mat h).2.2)).filter _
theorem nxt_three {met : List Fa} {x : Fa} (h : x ∈ keys M) : (nxt M met x).length ≤ 3 := by
  obtain ⟨h1, h2, h3⟩ := pair_of fc mat h
  have hx : x ∉ nxt M met x := fun z => (mem_nxt.mp z).2.1 rfl
  have hnd : (x :: nxt M met x).Nodup := List.nodup_cons.mpr ⟨hx, nxt_nd fc mat h⟩
  have := nodup_sub_length (m := ers (upOf M x)) hnd fun z hz => by
    rcases List.mem_cons.mp hz with e | e
    · rw [e]; exact mem_ers.mpr h2
    · exact mem_ers.mpr (mem_nxt.mp e).1
  rw [ers_len, List.length_cons] at this
  have := fc.len _ h3
  omega
theorem kf_le (n : Nat) (hT : ∀ l : List Fa, l.Nodup → (∀ x ∈ l, x ∈ F ∧ x.length = n) → l.length ≤ 35) : (kf M n).length ≤ 35 := by
  refine hT _ (mat.fsts.filter _) fun x hx => ?_
  obtain ⟨h1, h2⟩ := List.mem_filter.mp hx
  obtain ⟨p, hp, rfl⟩ := List.mem_map.mp h1
  exact ⟨mat.small fc hp, by simpa using h2⟩
theorem more_in {met here : List Fa} {n : Nat} (hh : ∀ x ∈ here, x ∈ kf M n) : ∀ z ∈ more M met here, z ∈ kf M n ∧ z ∉ met := fun z hz => by
  obtain ⟨x, hx, hzx⟩ := List.mem_flatMap.mp hz
  obtain ⟨h1, h2, h3, h4⟩ := mem_nxt.mp hzx
  obtain ⟨hk, hl⟩ := List.mem_filter.mp (hh x hx)
  have e1 := h1.len
  have e2 := (pair_of fc mat hk).2.1.len
  have e3 : x.length = n := by simpa using hl
  exact ⟨List.mem_filter.mpr ⟨h3, by simp; omega⟩, h4⟩
theorem more_le {met here : List Fa} {n : Nat} (hh : ∀ x ∈ here, x ∈ kf M n) : (more M met here).length ≤ min 3 (dc (kf M n) (more M met here)) * here.length := by
  refine flat_le fun x hx => ?_
  have hk := (List.mem_filter.mp (hh x hx)).1
  refine Nat.le_min.mpr ⟨nxt_three fc mat hk, dc_sub (nxt_nd fc mat hk) fun z hz => ?_⟩
  have hm : z ∈ more M met here := List.mem_flatMap.mpr ⟨x, hx, hz⟩
  exact ⟨hm, (more_in fc mat hh z hm).1⟩
theorem BF.step {f : Fa} {k : Nat} {met here : List Fa} (h35 : (kf M f.length).length ≤ 35) (h : BF M f k met here) : (met ++ more M met here).length ≤ 35 * bB ∧ (more M met here).length ≤ bB ∧ (f ∉ more M met here → BF M f (k + 1) (met ++ more M met here) (more M met here)) := by
  have hin := more_in fc mat (met := met) h.hk
  have hd : dc (kf M f.length) (met ++ more M met here) = dc (kf M f.length) met + dc (kf M f.length) (more M met here) := dc_app fun x hx => (hin x hx).2
  have hcube : (more M met here).length ^ 3 ≤ 3 ^ dc (kf M f.length) (met ++ more M met here) := by
    rw [hd, Nat.pow_add]
    refine Nat.le_trans (Nat.pow_le_pow_left (more_le fc mat h.hk) 3) ?_
    rw [Nat.mul_pow, Nat.mul_comm]
    exact Nat.mul_le_mul h.cube (cube_le _)
  have hd35 : dc (kf M f.length) (met ++ more M met here) ≤ 35 := Nat.le_trans (dc_le ..) h35
  have hB : (more M met here).length ≤ bB := by
    refine Nat.le_of_lt_succ (Nat.lt_of_not_le fun z => ?_)
    have h1 : (bB + 1) ^ 3 ≤ 3 ^ 35 := Nat.le_trans (Nat.pow_le_pow_left z 3) (Nat.le_trans hcube (Nat.pow_le_pow_right (by decide) hd35))
    exact absurd h1 (by unfold bB; decide)
  have hlen : (met ++ more M met here).length ≤ dc (kf M f.length) (met ++ more M met here) * bB := by
    rw [List.length_append, hd, Nat.add_mul]
    refine Nat.add_le_add h.len ?_
    cases he : more M met here with
    | nil => exact Nat.zero_le _
    | cons z r =>
      rw [← he]
      have hz : z ∈ more M met here := by rw [he]; exact List.mem_cons_self
      have := dc_pos hz (hin z hz).1
      exact Nat.le_trans hB (Nat.le_mul_of_pos_left _ this)
  refine ⟨Nat.le_trans hlen (Nat.mul_le_mul_right _ hd35), hB, fun hf => ⟨fun x hx => (hin x hx).1, fun x hx => ?_, fun z => ?_, fun x hx hn z hz => ?_, hcube, ?_, hlen⟩⟩
  · rcases List.mem_append.mp hx with e | e
    · exact h.mm x e
    · exact (hin x e).1
  · rcases List.mem_append.mp z with e | e
    · exact h.fm e
    · exact hf e
  · have hx' : x = f ∨ x ∈ met := by
      rcases hx with e | e
      · exact .inl e
      · rcases List.mem_append.mp e with e | e
        · exact .inr e
        · exact absurd e hn
    by_cases hh : x ∈ here
    · by_cases hm : z ∈ met
      · exact List.mem_append_left _ hm
      · refine List.mem_append_right _ (List.mem_flatMap.mpr ⟨x, hh, mem_nxt.mpr ?_⟩)
        obtain ⟨y, h1, h2, h3, h4⟩ := hz
        rw [upOf_mem mat.fsts h1]
        exact ⟨h2, h3, h4, hm⟩
    · exact List.mem_append_left _ (h.cl x hx' hh z hz)
  · cases he : more M met here with
    | nil => exact .inl rfl
    | cons z r =>
      right
      rw [← he, hd]
      have hz : z ∈ more M met here := by rw [he]; exact List.mem_cons_self
      have h1 := dc_pos hz (hin z hz).1
      rcases h.cnt with e | e
      · rw [more, e] at he
        cases he
      · omega
end
/-- from x on -/
inductive Rch (M : List (Fa × Fa)) : Fa → Fa → Prop where
  | one {x z : Fa} : Edge M x z → Rch M x z
  | more {x y z : Fa} : Rch M x y → Edge M y z → Rch M x z
/-- all that f reaches stands in S, not f -/
def Shut (M : List (Fa × Fa)) (f : Fa) : Prop := ∃ S : List Fa, (∀ x, (x = f ∨ x ∈ S) → ∀ z, Edge M x z → z ∈ S) ∧ f ∉ S
theorem BF.shut {M : List (Fa × Fa)} {f : Fa} {k : Nat} {met here : List Fa} (h : BF M f k met here) (hk : M.length < k) : Shut M f := by
  have hn : here = [] := by
    rcases h.cnt with e | e
    · exact e
    · have h1 := dc_le (kf M f.length) met
      have h2 : (kf M f.length).length ≤ M.length := by
        unfold kf keys
        refine Nat.le_trans (List.length_filter_le ..) ?_
        rw [List.length_map]
        exact Nat.le_refl _
      omega
  exact ⟨met, fun x hx z hz => h.cl x hx (by rw [hn]; exact fun z => nomatch z) z hz, h.fm⟩
theorem Shut.no {M : List (Fa × Fa)} {f : Fa} (h : Shut M f) : ¬ Rch M f f := by
  obtain ⟨S, h1, h2⟩ := h
  have : ∀ z, Rch M f z → z ∈ S := fun z r => by
    induction r with
    | one e => exact h1 _ (.inl rfl) _ e
    | more r e ih => exact h1 _ (.inr ih) _ e
  exact fun r => h2 (this f r)
theorem Rch.trans {M : List (Fa × Fa)} {x y z : Fa} (a : Rch M x y) (b : Rch M y z) : Rch M x z := by
  induction b with
  | one e => exact .more a e
  | more _ e ih => exact .more ih e
open Classical in
theorem countP_lt {l : List Fa} {p q : Fa → Prop} (h : ∀ x ∈ l, p x → q x) {a : Fa} (ha : a ∈ l) (hp : ¬ p a) (hq : q a) : l.countP (fun x => decide (p x)) < l.countP (fun x => decide (q x)) := by
  induction l with
  | nil => cases ha
  | cons b r ih =>
    rw [List.countP_cons, List.countP_cons]
    have hle : r.countP (fun x => decide (p x)) ≤ r.countP (fun x => decide (q x)) := List.countP_mono_left fun x hx hpx => decide_eq_true (h x (List.mem_cons_of_mem _ hx) (of_decide_eq_true hpx))
    rcases List.mem_cons.mp ha with e | e
    · subst e
      simp [hp, hq]
      omega
    · have := ih (fun x hx => h x (List.mem_cons_of_mem _ hx)) e
      have hb := h b List.mem_cons_self
      by_cases h1 : p b
      · simp [h1, hb h1]; omega
      · by_cases h2 : q b
        · simp [h1, h2]; omega
        · simp [h1, h2]; omega
open Classical in
theorem Acyc.of_shut {M : List (Fa × Fa)} (h : ∀ f ∈ keys M, Shut M f) : Acyc M := by
  refine ⟨fun x => (keys M).countP fun k => decide (Rch M x k), fun x z e => ?_⟩
  have hz : z ∈ keys M := by obtain ⟨_, _, _, _, h⟩ := e; exact h
  exact countP_lt (p := fun k => Rch M z k) (q := fun k => Rch M x k) (fun k _ r => (Rch.one e).trans r) hz (h z hz).no (.one e)
end K96

/-! _law_rings. -/
namespace K96
open PySem PySem.Spec PyProof.Rows L2
theorem few7 : ∀ n, n < 5 → ((ptsF v7).filter fun x => x.length == n).length ≤ 35 := by decide +kernel
theorem Fc.few35 {F : List Fa} (fc : Fc F) {n : Nat} (hn : n < 5) (l : List Fa) (hl : l.Nodup) (h : ∀ x ∈ l, x ∈ F ∧ x.length = n) : l.length ≤ 35 :=
  Nat.le_trans (nodup_sub_length hl fun x hx => List.mem_filter.mpr ⟨(ptsF_mem _ _).mpr (fc.sub7 (h x hx).1), by simpa using (h x hx).2⟩) (few7 n hn)
theorem tvs_keysD {H : Hp} {kvs : List (List Key × V)} {M : List (Fa × Fa)} (h : DP H kvs M) : ∀ {bs : List Addr}, IsKeys H kvs bs → TVs H (bs.map V.ref) (keys M) := by
  induction h with
  | nil => intro bs k; cases k; exact .nil
  | @cons kv p kvs M h t ih =>
    intro bs k
    cases k with
    | cons k1 k2 =>
      rw [h.1] at k1
      exact .cons ⟨_, rfl, key_ti k1⟩ (ih k2)
section
variable {P : Program} {w : World} {K : PySem.W.Frag} {mg : Str → Option Value} {base : Heap} {C : Addr}

def spRings : Sp := fun vs H Q _ => ∃ (t : Addr) (F : List Fa) (ps : List V) (M : List (Fa × Fa)), vs = [.ref t] ∧ PlT H t ps ∧ PrTs H ps M ∧ Mat F M ∧ Fc F ∧ ∀ H' (b : Bool), Same H H' → (b = false → Acyc M) → Q (.bl b) H'
abbrev n_rings : List Str := ["_law_pairs", "_law_ups", "_law_first", "_law_met", "_law_here", "_law_turn", "_law_more", "_law_small", "_law_big", "_law_downs", "_law_at", "_law_down"]
theorem sc_rings : FnScope n_rings ["_law_pairs"] (defScope (top 55)) := ⟨rfl, rfl, rfl, by decide +kernel, rfl, by decide +kernel, by decide +kernel⟩
theorem ok_rings (N : Nm mg) (D : Def K mg "_law_rings" (top 55)) : Cal P w K mg base "_law_rings" 1 ["_law_pairs"] spRings := by
  refine D.ok sc_rings (fun vs H Q E h => ?_) (fun _ _ _ _ _ _ us hl => match us, hl with | [_], _ => rfl) (fun f cdv A outer s H vs Q E hr h => ?_)
  · obtain ⟨t, F, ps, M, rfl, _⟩ := h
    rfl
  · obtain ⟨t, F, ps, M, rfl, ht, tM, mat, fc, q⟩ := h
    have hu := hu_of hr
    have hu64 : (A.deeper (envOfC "_law_rings" (defScope (top 55)) s.heap.objs.size f cdv)).units + 64 < cLine := hr.units
    have hu65 : (A.deeper (envOfC "_law_rings" (defScope (top 55)) s.heap.objs.size f cdv)).units + 65 < cLine := by have := hr.un; omega
    have hu2 : (A.deeper (envOfC "_law_rings" (defScope (top 55)) s.heap.objs.size f cdv)).units + 2 < cLine := by omega
    refine ⟨_, pss_cons (ps_set (i := 1) sc_rings.nd rfl (Or.inr rfl) (pe_callTy (call_dictPT rfl hu2) (by rfl) N.dict (by decide +kernel) (pa_cons (pv 0) pa_nil)))
      (pss_cons (ps_for PassesOwn.never rfl (pi_list (pe_callTy (call_list_dT rfl) (by rfl) N.list (by decide +kernel) (pa_cons (pv 1) pa_nil))) (pg_name (i := 2) sc_rings.nd rfl (Or.inl rfl))
      (pss_cons (ps_asg (pe_tup (pa_cons (pe_lst pa_nil) (pa_cons (pe_lst (pa_cons (pv 2) pa_nil)) pa_nil))) (pg_tup rfl (pgs_cons (pg_name (i := 3) sc_rings.nd rfl (Or.inr rfl)) (pgs_cons (pg_name (i := 4) sc_rings.nd rfl (Or.inl rfl)) pgs_nil))))
      (pss_one (ps_for PassesOwn.never rfl (pi_range1 (by rfl) N.range (pa_cons (pe_op op_add (pe_callB call_len_dT (by rfl) N.len PySem.boot_len (pa_cons (pv 1) pa_nil)) pe_int) pa_nil)) (pg_name (i := 5) sc_rings.nd rfl (Or.inl rfl))
      (pss_cons (ps_set (i := 6) sc_rings.nd rfl (Or.inl rfl) (pe_lst pa_nil))
      (pss_cons (ps_for PassesOwn.never rfl (pi_list (pv 4)) (pg_name (i := 7) sc_rings.nd rfl (Or.inr rfl))
      (pss_cons (ps_set (i := 8) sc_rings.nd rfl (Or.inr rfl) (pe_dget hu (pv 1) (pv 7) (fun _ _ => rfl)))
      (pss_cons (ps_setLc (i := 9) (own := [("_law_at", 10)]) (g := gName 10) (tt := tYes) rfl sc_rings.nd rfl rfl (sw_true rfl rfl rfl (by decide +kernel)) (pi_range1 (by rfl) N.range (pa_cons (pe_callB call_len_seq (by rfl) N.len PySem.boot_len (pa_cons (pv 8) pa_nil)) pa_nil)) (blkOk_by (N := n_rings) (sc := defScope (top 55)) (by decide +kernel)) (fun _ _ _ _ _ => (pg_name (i := 10) sc_rings.nd rfl (Or.inl rfl))) (fun _ _ _ _ _ => pts_nil) (fun _ _ _ _ _ => by exact (pe_erase (pv 8) (pv 10) (pv 8) (pv 10))))
      (pss_one (ps_set (i := 6) sc_rings.nd rfl (Or.inl rfl) (pe_op op_cat (pv 6) (pe_lc (own := [("_law_down", 11)]) (g := gName 11) rfl sc_rings.nd (pi_list (pv 9)) (blkOk_by (N := n_rings) (sc := defScope (top 55)) (by decide +kernel)) (fun _ _ _ _ _ => (pg_name (i := 11) sc_rings.nd rfl (Or.inl rfl))) (fun _ _ _ _ _ => (pts_one (PW.pt (pw_and (pt_cmpR (op_neK (K := K) rfl hu64) (pv 11) (pv 7) (nomark _)) (pw_and (pt_cmp (pc_din hu (pv 11) (pv 1))) (pw_and1 (pt_cmpR (op_notInK (K := K) rfl hu65) (pv 11) (pv 3) rfl))))))) (fun _ _ _ _ _ => by exact (pv 11)))))))))
      (pss_cons (ps_if (pt_cmpR (op_inD hu65) (pv 2) (pv 6) rfl) (pss_one (ps_ret pe_bl)) pss_nil)
      (pss_one (ps_asg (pe_tup (pa_cons (pe_op op_cat (pv 3) (pv 6)) (pa_cons (pv 6) pa_nil))) (pg_tup rfl (pgs_cons (pg_name (i := 3) sc_rings.nd rfl (Or.inr rfl)) (pgs_cons (pg_name (i := 4) sc_rings.nd rfl (Or.inl rfl)) pgs_nil))))))))))))
      (pss_one (ps_ret pe_bl))), ?_⟩
    have hfew := mat.few fc
    -- ups = dict(pairs)
    obtain ⟨L0, rfl, hL0, hk0, dp0⟩ := pr2_of tM
    refine ⟨_, rfl, t, L0, rfl, ht, hL0, by rw [hk0]; exact nodup_mapI (fun _ _ => ky_inj) mat.fsts, fun n hn => ?_⟩
    have s1 : Same H (upd H n (.dT (L0.map fun e => (e.k, e.v)))) := same_upd hn
    have hn1 : upd H n (.dT (L0.map fun e => (e.k, e.v))) n = some (.dT (L0.map fun e => (e.k, e.v))) := upd_same
    have dp1 := dp0.same s1
    generalize upd H n (.dT (L0.map fun e => (e.k, e.v))) = H1 at s1 hn1 dp1
    generalize (L0.map fun e => (e.k, e.v)) = kvs at hn1 dp1
    clear dp0 hk0 hL0
    have hkl := Paired.length dp1
    -- for first in list(ups)
    refine ⟨_, rfl, n, kvs, rfl, .inl hn1, fun p bs hp hbs => ?_⟩
    have tK := TVs.same (same_upd (o := .lst (bs.map V.ref)) hp) (tvs_keysD dp1 hbs)
    have s2 : Same H (upd H1 p (.lst (bs.map V.ref))) := Same.upd' s1 hp
    have hp2 : upd H1 p (.lst (bs.map V.ref)) p = some (.lst (bs.map V.ref)) := upd_same
    have hn2 := same_upd (o := .lst (bs.map V.ref)) hp _ _ hn1
    have dp2 := dp1.same (same_upd (o := .lst (bs.map V.ref)) hp)
    generalize upd H1 p (.lst (bs.map V.ref)) = H2 at tK s2 hp2 hn2 dp2
    refine ⟨p, rfl, ⟨_, SqL.of hp2⟩, for_it walk_list (fun i σ H3 => ∃ (u2 u3 u4 u5 u6 u7 u8 u9 : Option V), σ = [some (.ref t), some (.ref n), u2, u3, u4, u5, u6, u7, u8, u9, none, none] ∧ Same H2 H3 ∧ ∀ f ∈ (keys M).take i, Shut M f)
      ⟨none, none, none, none, none, none, none, none, rfl, Same.refl _, fun _ z => by simp at z⟩ (fun i σ H3 _ ⟨_, _, _, _, _, _, _, _, _, s3, _⟩ => SqL.of (s3 _ _ hp2)) ?_ ?_⟩
    · rintro i v _ _ H3 hi ⟨u2, u3, u4, u5, u6, u7, u8, u9, rfl, s3, hsh⟩ ⟨rfl, hv⟩
      obtain ⟨fx, hf, a, rfl, ha⟩ := tvs_at tK hv
      have hfk : fx ∈ keys M := List.mem_of_getElem? hf
      have h35 : (kf M fx.length).length ≤ 35 := by
        refine kf_le fc mat _ (fc.few35 ?_)
        obtain ⟨pp, hpp, rfl⟩ := List.mem_map.mp hfk
        have := fc.len _ (mat.small fc hpp)
        omega
      -- met, here = [], [first]
      refine ⟨by simp [sizeLine_eq], fun lm hlm => ⟨_, rfl, by simp [sizeLine_eq], fun lh hlh => ⟨by simp [sizeLine_eq], fun t2 ht2 => ⟨t2, _, rfl, SqT.of upd_same, rfl, _, _, rfl, _, _, rfl, rfl, ?_⟩⟩⟩⟩
      have s4 : Same H3 (upd (upd (upd H3 lm (.lst [])) lh (.lst [.ref a])) t2 (.tup [.ref lm, .ref lh])) := Same.upd' (Same.upd' (same_upd hlm) hlh) ht2
      have hlm4 : upd (upd (upd H3 lm (.lst [])) lh (.lst [.ref a])) t2 (.tup [.ref lm, .ref lh]) lm = some (.lst []) := same_upd ht2 _ _ (same_upd hlh _ _ upd_same)
      have hlh4 : upd (upd (upd H3 lm (.lst [])) lh (.lst [.ref a])) t2 (.tup [.ref lm, .ref lh]) lh = some (.lst [.ref a]) := same_upd ht2 _ _ upd_same
      generalize upd (upd (upd H3 lm (.lst [])) lh (.lst [.ref a])) t2 (.tup [.ref lm, .ref lh]) = H4 at s4 hlm4 hlh4
      clear ht2 hlh hlm
      have s4' := s3.trans s4
      -- for turn in range(len(ups) + 1)
      refine ⟨_, rfl, n, _, rfl, s4' _ _ hn2, _, _, rfl, rfl, _, rfl, by omega, by omega, ?_⟩
      refine for_it walk_r0 (fun k σ H5 => ∃ (u5 u6 u7 u8 u9 : Option V) (lm lh : Addr) (xsm xsh : List V) (met here : List Fa), σ = [some (.ref t), some (.ref n), some (.ref a), some (.ref lm), some (.ref lh), u5, u6, u7, u8, u9, none, none] ∧ Same H2 H5 ∧
          H5 lm = some (.lst xsm) ∧ TVs H5 xsm met ∧ H5 lh = some (.lst xsh) ∧ TVs H5 xsh here ∧ BF M fx k met here)
        ⟨u5, u6, u7, u8, u9, lm, lh, [], [.ref a], [], [fx], rfl, s4', hlm4, .nil, hlh4, .cons ⟨a, rfl, s4' _ _ ha⟩ .nil, BF.start hfk⟩ (fun _ _ _ _ _ => trivial) ?_ ?_
      · rintro k v _ _ H5 hk ⟨u5, u6, u7, u8, u9, lm, lh, xsm, xsh, met, here, rfl, s5, hlm5, tm5, hlh5, th5, bf⟩ ⟨rfl, rfl⟩
        obtain ⟨hlen1, hlen2, hstep⟩ := bf.step fc mat h35
        have hmoreE : more M met here = here.flatMap (nxt M met) := rfl
        -- more = []
        refine ⟨by simp [sizeLine_eq], fun lo hlo => ?_⟩
        have s6 : Same H5 (upd H5 lo (.lst [])) := same_upd hlo
        -- for small in here
        refine ⟨_, rfl, lh, rfl, ⟨_, SqL.of (s6 _ _ hlh5)⟩, for_it walk_list (fun i' σ H7 => ∃ (u7 u8 u9 : Option V) (lo : Addr) (xso : List V), σ = [some (.ref t), some (.ref n), some (.ref a), some (.ref lm), some (.ref lh), some (.int k), some (.ref lo), u7, u8, u9, none, none] ∧
            Same H5 H7 ∧ H7 lo = some (.lst xso) ∧ TVs H7 xso ((here.take i').flatMap (nxt M met)))
          ⟨u7, u8, u9, lo, [], rfl, s6, upd_same, .nil⟩ (fun i' σ H7 _ ⟨_, _, _, _, _, _, s7, _⟩ => SqL.of (s7 _ _ hlh5)) ?_ ?_⟩
        · rintro i' v _ _ H7 hi' ⟨u7, u8, u9, lo, xso, rfl, s7, hlo7, to7⟩ ⟨rfl, hv⟩
          obtain ⟨x, hx, c, rfl, hc⟩ := tvs_at th5 hv
          have hxk : x ∈ keys M := (List.mem_filter.mp (bf.hk x (List.mem_of_getElem? hx))).1
          have s7' := s5.trans s7
          have hc7 : TI H7 c x := s7 _ _ hc
          obtain ⟨b, y, hval, hxy, hb⟩ := (dp2.same s7').some' hxk
          have hup : upOf M x = y := upOf_mem mat.fsts hxy
          have hy4 := fc.len y (mat.big _ hxy)
          -- big = ups[small]
          refine ⟨_, rfl, _, rfl, n, .ref b, rfl, DGet.t' (s7' _ _ hn2) (ti_key hc7) hval, ?_⟩
          -- downs = [..]
          refine ⟨_, rfl, b, y.map V.int, rfl, .inr (SqT.of hb), _, rfl, rng1 (by rw [List.length_map]; omega) fun D1 hD1 => ?_⟩
          refine lc_it walk_r1 (GP H7 D1 (fun j acc H => ∃ L', TVs H acc L' ∧ L' = (ers y).take j)) (gp_start hD1 ⟨[], .nil, rfl⟩) (fun _ _ _ _ => trivial) ?_ ?_
          · rintro j v _ H8 hj ⟨s8, acc', hD8, L', tacc', rfl⟩ ⟨rfl, rfl⟩
            have hj' : j < y.length := by simpa using hj
            refine ⟨rfl, b, y, j, rfl, rfl, s8 _ _ hb, hj', by omega, fun H9 c9 s9 hc9 => ?_⟩
            have hl3 : acc'.length = j := by rw [Paired.length tacc', List.length_take, Nat.min_eq_left]; rw [ers_len]; omega
            exact gp_grow off_tvs hD1 s8 hD8 s9 (small_line (by omega)) ⟨_, tvs_snoc (tacc'.same s9) ⟨c9, rfl, hc9⟩, (take_snoc (ers_at hj')).symm⟩
          rintro H8 ⟨s8, acc8, hD8, L', tacc8, rfl⟩
          rw [List.length_map, List.take_of_length_le (by rw [ers_len]; exact Nat.le_refl _)] at tacc8
          have s8' := s7.trans s8
          have s8'' := s7'.trans s8
          have hn8 := s8'' _ _ hn2
          have dp8 := dp2.same s8''
          have hc8 : TI H8 c x := s8 _ _ hc7
          have tm8 := tm5.same s8'
          have hlm8 := s8' _ _ hlm5
          -- more = more + [..]
          refine ⟨_, rfl, _, rfl, D1, rfl, ⟨_, SqL.of hD8⟩, fun D2 hD2 => ?_⟩
          refine lc_it walk_list (GP H8 D2 (fun j acc H => ∃ L', TVs H acc L' ∧ L' = ((ers y).take j).filter fun z => !decide (z = x) && (decide (z ∈ keys M) && !decide (z ∈ met)))) (gp_start hD2 ⟨[], .nil, rfl⟩) (fun j H9 _ h9 => h9.1.seq (SqL.of hD8)) ?_ ?_
          · rintro j v _ H9 hj ⟨s9, acc9, hD9, L', tacc9, rfl⟩ ⟨rfl, hv⟩
            obtain ⟨z, hz, e, rfl, he⟩ := tvs_at tacc8 hv
            have he9 : TI H9 e z := s9 _ _ he
            have hla : acc9.length ≤ 4 := by
              rw [Paired.length tacc9]
              refine Nat.le_trans (List.length_filter_le ..) (Nat.le_trans (List.length_take_le' ..) ?_)
              rw [ers_len]; exact hy4
            have skip : (!decide (z = x) && (decide (z ∈ keys M) && !decide (z ∈ met))) = false → GP H8 D2 (fun j acc H => ∃ L', TVs H acc L' ∧ L' = ((ers y).take j).filter fun z => !decide (z = x) && (decide (z ∈ keys M) && !decide (z ∈ met))) (j + 1) H9 := fun h => by
              refine gp_skip s9 hD9 (Same.refl _) ⟨_, tacc9, ?_⟩
              rw [take_snoc hz, List.filter_append, List.filter_cons_of_neg (by rw [h]; simp)]
              simp
            refine ⟨rfl, _, rfl, _, rfl, ne_f he9 (s9 _ _ hc8) ⟨_, rfl, ?_⟩⟩
            by_cases hzx : z = x
            · exact ifF (by simp [hzx]) (iteF (skip (by simp [hzx])))
            refine ifT (by simp [hzx]) ⟨_, rfl, _, rfl, n, _, rfl, DGet.t (k := ky z) (s9 _ _ hn8) (ti_key he9), _, rfl, ?_⟩
            by_cases hzk : z ∈ keys M
            · obtain ⟨b', y', e3, _⟩ := (dp8.same s9).some' hzk
              rw [e3]
              refine ifT rfl ⟨_, rfl, _, rfl, notIn_f he9 (SqL.of (s9 _ _ hlm8)) (tm8.same s9) ⟨_, rfl, ?_⟩⟩
              by_cases hzm : z ∈ met
              · exact ifF (by simp [hzm]) (skip (by simp [hzm]))
              · refine ifT (by simp [hzm]) ⟨_, rfl, gp_grow off_tvs hD2 s9 hD9 (Same.refl _) (small_line (by omega)) ⟨_, tvs_snoc tacc9 ⟨e, rfl, he9⟩, ?_⟩⟩
                rw [take_snoc hz, List.filter_append, List.filter_cons_of_pos (by simp [hzx, hzk, hzm])]
                rfl
            · rw [(dp8.same s9).none' hzk]
              exact ifF rfl (iteF (skip (by simp [hzk])))
          rintro H9 ⟨s9, acc9, hD9, L', tacc9, rfl⟩
          rw [Paired.length tacc8, List.take_length] at tacc9
          have hnx : (ers y).filter (fun z => !decide (z = x) && (decide (z ∈ keys M) && !decide (z ∈ met))) = nxt M met x := by unfold nxt; rw [hup]
          rw [hnx] at tacc9
          have htk : (here.take (i' + 1)).flatMap (nxt M met) = (here.take i').flatMap (nxt M met) ++ nxt M met x := by rw [take_snoc hx, List.flatMap_append]; simp
          have hsz : ((here.take (i' + 1)).flatMap (nxt M met)).length ≤ bB := by
            refine Nat.le_trans ?_ hlen2
            rw [hmoreE]
            refine List.Sublist.length_le ?_
            conv => rhs; rw [← List.take_append_drop (i' + 1) here, List.flatMap_append]
            exact List.sublist_append_left ..
          rw [htk, List.length_append] at hsz
          have hx1 := Paired.length to7
          have hx2 := Paired.length tacc9
          have s9' := s8.trans s9
          refine ⟨lo, D2, xso, acc9, rfl, rfl, s9' _ _ hlo7, hD9, by rw [sizeLine_eq]; unfold bB at hsz; omega, fun l' hl' => ?_⟩
          refine ⟨_, _, _, l', _, rfl, Same.upd' (s7.trans s9') hl', upd_same, ?_⟩
          rw [htk]
          exact TVs.same (same_upd hl') (paired_app (to7.same s9') tacc9)
        · rintro _ H7 ⟨u7, u8, u9, lo, xso, rfl, s7, hlo7, to7⟩
          rw [Paired.length th5, List.take_length, ← hmoreE] at to7
          have s7' := s5.trans s7
          -- if first in more
          refine ⟨_, rfl, _, rfl, in_f (s7' _ _ ha) (SqL.of hlo7) to7 ⟨_, rfl, ?_⟩⟩
          by_cases hfm : fx ∈ more M met here
          · exact ifT (decide_eq_true hfm) (q H7 true (s2.trans s7') (fun z => nomatch z))
          refine ifF (decide_eq_false hfm) ?_
          -- met, here = met + more, more
          have hx1 := Paired.length to7
          have hx2 := Paired.length tm5
          refine ⟨_, rfl, _, rfl, lm, lo, xsm, xso, rfl, rfl, s7 _ _ hlm5, hlo7, by rw [List.length_append] at hlen1; rw [sizeLine_eq]; unfold bB at hlen1; omega, fun l3 hl3 => ⟨_, rfl, by simp [sizeLine_eq], fun t3 ht3 => ⟨t3, _, rfl, SqT.of upd_same, rfl, _, _, rfl, _, _, rfl, rfl, ?_⟩⟩⟩
          have s8 : Same H7 (upd (upd H7 l3 (.lst (xsm ++ xso))) t3 (.tup [.ref l3, .ref lo])) := Same.upd' (same_upd hl3) ht3
          exact ⟨_, _, _, _, _, l3, lo, xsm ++ xso, xso, met ++ more M met here, more M met here, rfl, s7'.trans s8, same_upd ht3 _ _ upd_same, paired_app ((tm5.same s7).same s8) (to7.same s8), s8 _ _ hlo7, to7.same s8, hstep hfm⟩
      · rintro _ H5 ⟨u5, u6, u7, u8, u9, lm, lh, xsm, xsh, met, here, rfl, s5, hlm5, tm5, hlh5, th5, bf⟩
        refine ⟨_, _, _, _, _, _, _, _, rfl, s5, fun f' hf' => ?_⟩
        rw [take_snoc hf] at hf'
        rcases List.mem_append.mp hf' with z | z
        · exact hsh f' z
        · rw [List.mem_singleton.mp z]
          refine bf.shut ?_
          rw [hkl]
          omega
    · rintro _ H3 ⟨u2, u3, u4, u5, u6, u7, u8, u9, rfl, s3, hsh⟩
      rw [Paired.length tK, List.take_length] at hsh
      exact q H3 false (s2.trans s3) fun _ => Acyc.of_shut hsh
end
end K96

/-! Plain: the law of the lists. -/
namespace K96
/-- how many pairs have a small one of n vertices -/
def mN (M : List (Fa × Fa)) (n : Nat) : Nat := M.countP fun p => p.1.length == n
theorem cnt_ends {M : List (Fa × Fa)} (h : ∀ p ∈ M, p.1.length + 1 = p.2.length) (d : Nat) : cntF (ends M) d = mN M (d + 1) + mN M d := by
  induction M with
  | nil => rfl
  | cons p r ih =>
    have h1 := h p List.mem_cons_self
    have h2 := ih fun q hq => h q (List.mem_cons_of_mem _ hq)
    have e : ends (p :: r) = [p.1, p.2] ++ ends r := rfl
    have e1 : cntF (ends (p :: r)) d = ((if p.1.length = d + 1 then 1 else 0) + (if p.2.length = d + 1 then 1 else 0)) + cntF (ends r) d := by
      rw [e]
      unfold cntF
      rw [List.countP_append, List.countP_cons, List.countP_cons, List.countP_nil]
      simp
      omega
    have e2 : ∀ n, mN (p :: r) n = mN r n + if p.1.length = n then 1 else 0 := fun n => by
      unfold mN
      rw [List.countP_cons]
      simp
    rw [e1, h2, e2, e2]
    by_cases c1 : p.1.length = d + 1
    · have c2 : ¬ p.2.length = d + 1 := by omega
      have c3 : ¬ p.1.length = d := by omega
      simp only [c1, c2, c3, if_true, if_false]
      have : ¬ (d + 1 = d) := by omega
      simp only [this, if_false]
      omega
    · by_cases c3 : p.1.length = d
      · have c2 : p.2.length = d + 1 := by omega
        simp only [c2, c3, if_true]
        have : ¬ (d = d + 1) := by omega
        simp only [this, if_false]
        omega
      · have c2 : ¬ p.2.length = d + 1 := by omega
        simp only [c1, c2, c3, if_false]
        omega
theorem cnt_sAt (F : List Fa) (d : Nat) : cntF F d = (sAt F (d + 1)).length := by
  unfold cntF sAt
  rw [if_neg (by omega), List.countP_eq_length_filter]
theorem cf_dn {x y : Fa} (hup : y.Pairwise (· < ·)) (h : Dn x y) : ∃ i, cf x y = sgn i := by
  obtain ⟨i, hi, rfl⟩ := h
  refine ⟨i, cfL_mem (by rw [bd_fst]; exact ers_nd hup) (List.mem_map.mpr ⟨i, List.mem_range.mpr hi, rfl⟩)⟩
theorem cf_not {x y : Fa} (h : ¬ Dn x y) : cf x y = 0 := by
  refine cfL_not ?_
  rw [bd_fst]
  exact fun z => h (mem_ers.mp z)
theorem Pr.not_sgn {p : Int} (hp : Pr p) (i : Nat) : ¬ p ∣ sgn i := by
  unfold sgn
  split
  · exact hp.not_one
  · rintro ⟨k, hk⟩
    exact hp.not_one ⟨-k, by rw [Int.mul_neg]; omega⟩
theorem ex_sorted {α : Type} (f : α → Nat) : ∀ l : List α, ∃ l' : List α, l'.Perm l ∧ l'.Pairwise fun a b => f a ≤ f b
  | [] => ⟨[], List.Perm.refl _, .nil⟩
  | a :: r => by
    obtain ⟨l', p, s⟩ := ex_sorted f r
    refine ⟨l'.filter (fun b => decide (f b ≤ f a)) ++ a :: l'.filter (fun b => !decide (f b ≤ f a)), ?_, ?_⟩
    · refine List.perm_middle.trans (List.Perm.cons a ?_)
      exact (List.filter_append_perm _ l').trans p
    · refine List.pairwise_append.mpr ⟨s.filter _, List.pairwise_cons.mpr ⟨fun b hb => ?_, s.filter _⟩, fun x hx y hy => ?_⟩
      · have := (List.mem_filter.mp hb).2
        simp at this
        omega
      · have h1 := (List.mem_filter.mp hx).2
        simp at h1
        rcases List.mem_cons.mp hy with e | e
        · rw [e]; exact h1
        · have h2 := (List.mem_filter.mp e).2
          simp at h2
          omega
section
variable {p : Int} (hp : Pr p) {F : List Fa} (fc : Fc F) {M : List (Fa × Fa)} (mat : Mat F M) (ac : Acyc M)
include hp fc mat ac
/-- THE BOUND: no more pairs than the rank -/
theorem pairs_le {n r : Nat} (hr : RkF p F n r) : mN M n ≤ r := by
  obtain ⟨rk, hrk⟩ := ac
  obtain ⟨P, pP, sP⟩ := ex_sorted (fun q : Fa × Fa => rk q.1) (M.filter fun q => q.1.length == n)
  have hP : ∀ q ∈ P, q ∈ M ∧ q.1.length = n := fun q hq => by
    obtain ⟨h1, h2⟩ := List.mem_filter.mp (pP.mem_iff.mp hq)
    exact ⟨h1, by simpa using h2⟩
  have hy : ∀ q ∈ P, q.2 ∈ sAt F (n + 1) := fun q hq => by
    obtain ⟨h1, h2⟩ := hP q hq
    have := (mat.down q h1).len
    exact (mem_sAt fc).mpr (.inr ⟨mat.big q h1, by omega⟩)
  have hl : mN M n = (P.map fun q => (bdf F n q.1, q.2)).length := by
    rw [List.length_map, pP.length_eq]
    unfold mN
    rw [List.countP_eq_length_filter]
  rw [hl]
  refine IsRank.bound hp hr _ (fun t ht => ?_) (fun t ht => ?_) ?_
  · obtain ⟨q, hq, rfl⟩ := List.mem_map.mp ht
    obtain ⟨h1, h2⟩ := hP q hq
    refine Spn.mem (List.mem_map.mpr ⟨q.1, (mem_sAt fc).mpr (.inr ⟨mat.small fc h1, h2⟩), rfl⟩)
  · obtain ⟨q, hq, rfl⟩ := List.mem_map.mp ht
    obtain ⟨h1, h2⟩ := hP q hq
    show ¬ p ∣ bdf F n q.1 q.2
    unfold bdf
    rw [if_pos (hy q hq)]
    obtain ⟨i, e⟩ := cf_dn (fc.up _ (mat.big q h1)) (mat.down q h1)
    rw [e]
    exact hp.not_sgn i
  · refine List.pairwise_map.mpr ?_
    have hk : P.Pairwise fun a b => a.1 ≠ b.1 := by
      have h0 : ((M.filter fun q => q.1.length == n).map (·.1)).Nodup := mat.fsts.sublist (List.filter_sublist.map _)
      have h1 : (P.map (·.1)).Nodup := (pP.map _).nodup_iff.mpr h0
      unfold List.Nodup at h1
      rwa [List.pairwise_map] at h1
    refine List.Pairwise.imp_of_mem ?_ (sP.and hk)
    intro a b ha hb ⟨hab, hne⟩
    show p ∣ bdf F n b.1 a.2
    unfold bdf
    rw [if_pos (hy a ha)]
    have : ¬ Dn b.1 a.2 := fun hd => by
      obtain ⟨h1, _⟩ := hP a ha
      obtain ⟨h2, _⟩ := hP b hb
      have := hrk a.1 b.1 ⟨a.2, h1, hd, fun e => hne e.symm, List.mem_map.mpr ⟨b, h2, rfl⟩⟩
      omega
    rw [cf_not this]
    exact ⟨0, by simp⟩
end
/-- the first rank -/
theorem rank_zero {p : Int} (hp : Pr p) {F : List Fa} (fc : Fc F) (hF : F ≠ []) {r : Nat} (h : RkF p F 0 r) : r = 1 := by
  have hle : r ≤ 1 := by
    have := IsRank.le hp h
    simpa [bdv, sAt] using this
  obtain ⟨x, hx⟩ := List.exists_mem_of_ne_nil F hF
  obtain ⟨v, hv⟩ := List.exists_mem_of_ne_nil x (fc.ne x hx)
  have hvF : [v] ∈ F := fc.cl x hx [v] (by simp) (List.singleton_sublist.mpr hv)
  have hy : [v] ∈ sAt F 1 := (mem_sAt fc).mpr (.inr ⟨hvF, rfl⟩)
  have := IsRank.bound hp h [(bdf F 0 [], [v])] (fun t ht => by
    rw [List.mem_singleton.mp ht]
    exact Spn.mem (List.mem_map.mpr ⟨[], by simp [sAt], rfl⟩)) (fun t ht => by
    rw [List.mem_singleton.mp ht]
    show ¬ p ∣ bdf F 0 [] [v]
    unfold bdf
    rw [if_pos hy]
    obtain ⟨i, e⟩ := cf_dn (x := []) (y := [v]) (by simp) ⟨0, by simp, rfl⟩
    rw [e]
    exact hp.not_sgn i) (by simp)
  simp at this
  omega
/-- 1 or -1 -/
def sg (x : Int) : Int := 1 - 2 * (x % 2)
theorem sg_succ (x : Int) : sg (x + 1) = - sg x := by unfold sg; omega
/-- the ranks as the law makes them -/
def RanksOk (p : Int) (F : List Fa) (m : Nat) (rk : List Int) : Prop := rk.length = m ∧ ∀ d, d < m → ∃ r1 r2 : Nat, RkF p F d r1 ∧ RkF p F (d + 1) r2 ∧ rk.getD d 0 = ((sAt F (d + 1)).length : Int) - r1 - r2 + if d = 0 then 1 else 0
/-- the critical numbers less the ranks -/
theorem law_diff {p : Int} (hp : Pr p) {F : List Fa} (fc : Fc F) {M : List (Fa × Fa)} (mat : Mat F M) (ac : Acyc M) {m : Nat} {rk : List Int} (hm : IsDim F m) (hrk : RanksOk p F m rk) :
    ∃ g : Nat → Int, g 0 = 0 ∧ (∀ n, n ≤ m → 0 ≤ g n) ∧ ∀ d, d < m → ((cntF F d : Int) - cntF (ends M) d) - rk.getD d 0 = g (d + 1) + g d := by
  classical
  have hex : ∀ n, n ≤ m → 0 < m → ∃ r, RkF p F n r := fun n hn h0 => by
    by_cases h : n < m
    · obtain ⟨r1, _, h1, _⟩ := hrk.2 n h
      exact ⟨r1, h1⟩
    · obtain ⟨_, r2, _, h2, _⟩ := hrk.2 (n - 1) (by omega)
      rw [show n - 1 + 1 = n by omega] at h2
      exact ⟨r2, h2⟩
  have hm0 : mN M 0 = 0 := by
    unfold mN
    rw [List.countP_eq_zero]
    intro q hq
    have h1 := mat.two q hq
    have h2 := (mat.down q hq).len
    simp
    intro e
    rw [e] at h2
    simp at h2
    omega
  refine ⟨fun n => if n = 0 then 0 else (if h : ∃ r, RkF p F n r then (h.choose : Int) - mN M n else 0), by simp, fun n hn => ?_, fun d hd => ?_⟩
  · dsimp only
    by_cases h0 : n = 0
    · rw [if_pos h0]; exact Int.le_refl _
    · rw [if_neg h0]
      split
      · rename_i h
        have := pairs_le hp fc mat ac h.choose_spec
        omega
      · exact Int.le_refl _
  · obtain ⟨r1, r2, h1, h2, e⟩ := hrk.2 d hd
    have hF : F ≠ [] := by
      rcases hm.ex with z | ⟨x, hx, _⟩
      · omega
      · exact List.ne_nil_of_mem hx
    have hx2 : ∃ r, RkF p F (d + 1) r := ⟨r2, h2⟩
    have c2 : hx2.choose = r2 := RkF.uniq hp hx2.choose_spec h2
    dsimp only
    rw [if_neg (by omega), dif_pos hx2, c2, e, cnt_ends (fun q hq => (mat.down q hq).len), cnt_sAt]
    by_cases h0 : d = 0
    · subst h0
      rw [if_pos rfl, if_pos rfl, hm0, rank_zero hp fc hF h1]
      push_cast
      omega
    · have hx1 : ∃ r, RkF p F d r := ⟨r1, h1⟩
      have c1 : hx1.choose = r1 := RkF.uniq hp hx1.choose_spec h1
      rw [if_neg h0, if_neg h0, dif_pos hx1, c1]
      push_cast
      omega
/-- the gap, turn by turn -/
theorem gap_step (g : Nat → Int) (d k : Nat) : g k * sg ((d : Int) - k + 1) + (g (k + 1) + g k) * sg ((d : Int) - k) = g (k + 1) * sg ((d : Int) - (k + 1 : Nat) + 1) := by
  rw [show (d : Int) - k + 1 = ((d : Int) - k) + 1 from rfl, sg_succ, show (d : Int) - (k + 1 : Nat) + 1 = (d : Int) - k by omega]
  grind
theorem mN_zero {F : List Fa} {M : List (Fa × Fa)} (mat : Mat F M) : mN M 0 = 0 := by
  unfold mN
  rw [List.countP_eq_zero]
  intro q hq
  have h1 := mat.two q hq
  have h2 := (mat.down q hq).len
  simp
  intro e
  rw [e] at h2
  simp at h2
  omega
theorem mN_top {F : List Fa} {M : List (Fa × Fa)} (mat : Mat F M) {m : Nat} (hm : IsDim F m) : mN M m = 0 := by
  unfold mN
  rw [List.countP_eq_zero]
  intro q hq
  have h1 := hm.le _ (mat.big q hq)
  have h2 := (mat.down q hq).len
  simp
  omega
/-- the sum with signs: the pairs fall out -/
theorem law_sum {F : List Fa} (fc : Fc F) {M : List (Fa × Fa)} (mat : Mat F M) {m : Nat} (hm : IsDim F m) :
    ((List.range m).map fun d => ((cntF F d : Int) - cntF (ends M) d) * sg d).sum = ((List.range m).map fun d => (cntF F d : Int) * sg d).sum := by
  have he : ∀ d, (cntF (ends M) d : Int) = mN M (d + 1) + mN M d := fun d => by
    rw [cnt_ends fun q hq => (mat.down q hq).len]
    push_cast
    rfl
  have key : ∀ k, ((List.range k).map fun d => ((cntF F d : Int) - cntF (ends M) d) * sg d).sum = ((List.range k).map fun d => (cntF F d : Int) * sg d).sum + (mN M k : Int) * sg k := fun k => by
    induction k with
    | zero => rw [mN_zero mat]; simp
    | succ k ih =>
      rw [List.range_succ, List.map_append, List.map_append, List.sum_append, List.sum_append, ih]
      have hs : sg ((k + 1 : Nat) : Int) = - sg k := by rw [show ((k + 1 : Nat) : Int) = (k : Int) + 1 by omega, sg_succ]
      rw [hs]
      simp only [List.map_cons, List.map_nil, List.sum_cons, List.sum_nil]
      rw [he]
      grind
  rw [key, mN_top mat hm]
  simp
end K96

/-! law. -/
namespace K96
open PySem PySem.Spec PyProof.Rows L2
theorem eul_sum (F : List Fa) {m : Nat} (h : m ≤ 4) : ((List.range m).map fun k => (cntF F k : Int) * sg k).sum = eul (cnts F m) + 1 := by
  have h' : m = 0 ∨ m = 1 ∨ m = 2 ∨ m = 3 ∨ m = 4 := by omega
  rcases h' with rfl | rfl | rfl | rfl | rfl
  · rfl
  · show (cntF F 0 : Int) * 1 + 0 = ((cntF F 0 : Int) + 0) - 0 - 1 + 1
    omega
  · show (cntF F 0 : Int) * 1 + ((cntF F 1 : Int) * (-1) + 0) = ((cntF F 0 : Int) + 0) - ((cntF F 1 : Int) + 0) - 1 + 1
    omega
  · show (cntF F 0 : Int) * 1 + ((cntF F 1 : Int) * (-1) + ((cntF F 2 : Int) * 1 + 0)) = ((cntF F 0 : Int) + ((cntF F 2 : Int) + 0)) - ((cntF F 1 : Int) + 0) - 1 + 1
    omega
  · show (cntF F 0 : Int) * 1 + ((cntF F 1 : Int) * (-1) + ((cntF F 2 : Int) * 1 + ((cntF F 3 : Int) * (-1) + 0))) = ((cntF F 0 : Int) + ((cntF F 2 : Int) + 0)) - ((cntF F 1 : Int) + ((cntF F 3 : Int) + 0)) - 1 + 1
    omega
theorem Shp.but {C R : Addr} {H H' : Hp} {p d : Addr} {F : List Fa} {u : List V} (h : Shp C H p d F) (hR : H R = some (.lst u)) (s : But R H H') : Shp C H' p d F := by
  obtain ⟨⟨dx, fs, h1, h2⟩, h3, h4⟩ := h
  have n1 : p ≠ R := by rintro rfl; rw [hR] at h1; cases h1
  have n2 : d ≠ R := by rintro rfl; rw [hR] at h3; cases h3
  exact ⟨⟨dx, fs, s _ _ n1 h1, h2⟩, s _ _ n2 h3, h4⟩
theorem PlT.but {R : Addr} {H H' : Hp} {a : Addr} {xs u : List V} (h : PlT H a xs) (hR : H R = some (.lst u)) (s : But R H H') : PlT H' a xs := by
  obtain ⟨o, h1, h2, h⟩ := h
  have n1 : a ≠ R := by rintro rfl; rw [hR] at h; cases h
  exact ⟨o, h1, h2, s _ _ n1 h⟩
theorem Rw.lst {H : Hp} {R a : Addr} (h : Rw H R a) : ∃ u, H R = some (.lst u) := by
  obtain ⟨_, _, _, e, _⟩ := h
  exact ⟨_, e⟩
theorem ne_nil_f {K : PySem.W.Frag} {H : Hp} {Q : VK} {l e : Addr} {xs : List V} {L : List (List Int)} (hl : SqL K H l xs) (tL : TVs H xs L) (he : SqL K H e []) (q : Q (.bl (!decide (L = []))) H) : rNeD K (.ref l) (.ref e) H Q := by
  refine ⟨_, _, .lst hl (dpAll_tvs tL), .lst he .nil, fDs_shaped L, fDs_shaped [], ?_⟩
  have : PyData.eqv (.list (L.map fD)) (.list []) = decide (L = []) := by
    cases L with
    | nil => simp [PyData.eqv, PyData.eqvAll]
    | cons a r => simp [PyData.eqv, PyData.eqvAll]
  rw [this]
  exact q
theorem sIx_m1 {n : Nat} : HT.sIx n n (some (-1)) = n - 1 := by
  show (if (-1 : Int) < 0 then (-1 + (n : Int)).toNat else min (-1 : Int).toNat n) = n - 1
  rw [if_pos (by decide)]
  omega
theorem cut_last {xs : List V} : cutV xs none (some (-1)) = xs.take (xs.length - 1) := by
  unfold cutV
  rw [sIx_m1, HT.sIx_none]
  rfl
theorem Acyc.nil : Acyc [] := ⟨fun _ => 0, fun x z e => by obtain ⟨y, h, _⟩ := e; cases h⟩
theorem Mat.perm {F G : List Fa} {M : List (Fa × Fa)} (m : Mat F M) (h : ∀ x ∈ F, x ∈ G) : Mat G M := ⟨fun p hp => h _ (m.big p hp), m.two, m.down, m.nd⟩
section
variable {P : Program} {w : World} {K : PySem.W.Frag} {mg : Str → Option Value} {base : Heap} {C : Addr}

def spLaw (K : PySem.W.Frag) : Sp := fun vs H Q _ => ∃ (a : Addr) (ns : List Int), vs = [.ref a] ∧ SqL K H a (ns.map V.int) ∧ ∀ H', Q (.bl true) H'
abbrev n_law : List Str := ["_law_script", "_law_row", "_law_simplices_here", "_law_shape", "_law_faces_here", "_law_pairs", "_law_turn", "_law_left", "_law_prime", "_law_ranks", "_law_degree", "_law_gap", "_law_at", "_law_total"]
theorem sc_law : FnScope n_law ["_law_script"] (defScope (top 56)) := ⟨rfl, rfl, rfl, by decide +kernel, rfl, by decide +kernel, by decide +kernel⟩
theorem ok_law (N : Nm mg) (T : CxF K mg C) {f fC : Addr} {fd fdC : FuncData} (F0 : Fun K "law" "law" (top 56) f fd) (MC : Mk K C fC) (GC : FnOk P w K mg base CX0 5 fC fdC ["self", "simplices"] (spInit C)) (bC : Binds K fdC ["self", "simplices"] [])
    (c1 : Cal P w K mg base "_law_wide" 4 ["_law_row", "_law_most", "_law_size"] (spWide K)) (c2 : Cal P w K mg base "_law_faces" 1 ["_law_simplices_here"] spFaces) (c3 : Cal P w K mg base "_law_matching" 3 ["_law_row", "_law_faces_here"] (spMatching K))
    (c4 : Cal P w K mg base "_law_rings" 1 ["_law_pairs"] spRings) (c5 : Cal P w K mg base "is_loopless" 6 ["shape", "pairs"] (spIsLoopless C)) (c6 : Cal P w K mg base "critical_counts" 7 ["shape", "pairs"] (spCritical C))
    (c7 : Cal P w K mg base "_law_pick" 2 ["_law_row", "_law_things"] (spPick K)) (c8 : Cal P w K mg base "holes_mod" 5 ["shape", "degree", "prime"] (spHolesMod C)) (c9 : Cal P w K mg base "euler_of" 2 ["shape"] (spEulerOf C)) :
    FnOk P w K mg base CX0 8 f fd ["_law_script"] (spLaw K) := by
  obtain ⟨f1, fd1, G_wide, g_wide, k_wide, b_wide⟩ := c1.ex
  obtain ⟨f2, fd2, G_faces, g_faces, k_faces, b_faces⟩ := c2.ex
  obtain ⟨f3, fd3, G_matching, g_matching, k_matching, b_matching⟩ := c3.ex
  obtain ⟨f4, fd4, G_rings, g_rings, k_rings, b_rings⟩ := c4.ex
  obtain ⟨f5, fd5, G_is_loopless, g_is_loopless, k_is_loopless, b_is_loopless⟩ := c5.ex
  obtain ⟨f6, fd6, G_critical_counts, g_critical_counts, k_critical_counts, b_critical_counts⟩ := c6.ex
  obtain ⟨f7, fd7, G_pick, g_pick, k_pick, b_pick⟩ := c7.ex
  obtain ⟨f8, fd8, G_holes_mod, g_holes_mod, k_holes_mod, b_holes_mod⟩ := c8.ex
  obtain ⟨f9, fd9, G_euler_of, g_euler_of, k_euler_of, b_euler_of⟩ := c9.ex
  refine F0.ok sc_law (fun vs H Q E h => ?_) (fun cdv A outer s H vs Q E hr h => ?_)
  · obtain ⟨a, ns, rfl, _⟩ := h
    rfl
  · obtain ⟨a, ns, rfl, hS, q⟩ := h
    have hr7 : Room 7 _ := hr
    have hr6 : Room 6 _ := hr.mono (by decide)
    have hr5 : Room 5 _ := hr.mono (by decide)
    have hr4 : Room 4 _ := hr.mono (by decide)
    have hr3 : Room 3 _ := hr.mono (by decide)
    have hr2 : Room 2 _ := hr.mono (by decide)
    have hr1 : Room 1 _ := hr.mono (by decide)
    have hu64 : (A.deeper (envOfC "law" (defScope (top 56)) s.heap.objs.size f cdv)).units + 64 < cLine := hr.units
    refine ⟨_, pss_cons (ps_set (i := 1) sc_law.nd rfl (Or.inl rfl) (pe_lst (pa_cons (pv 0) (pa_cons pe_int (pa_cons pe_int (pa_cons pe_int pa_nil))))))
      (pss_cons (ps_set (i := 2) sc_law.nd rfl (Or.inl rfl) (pe_call G_wide hr4 (by rfl) g_wide k_wide b_wide .nil pass0 (pa_cons (pv 1) (pa_cons pe_int (pa_cons pe_int pa_nil)))))
      (pss_cons (ps_asg (pe_tup (pa_cons (pe_make MC GC hr6 (by rfl) T.mgC bC .nil pass0 (pa_cons (pv 2) pa_nil)) (pa_cons (pe_call G_faces hr1 (by rfl) g_faces k_faces b_faces .nil pass0 (pa_cons (pv 2) pa_nil)) pa_nil))) (pg_tup rfl (pgs_cons (pg_name (i := 3) sc_law.nd rfl (Or.inr rfl)) (pgs_cons (pg_name (i := 4) sc_law.nd rfl (Or.inr rfl)) pgs_nil))))
      (pss_cons (ps_set (i := 5) sc_law.nd rfl (Or.inl rfl) (pe_call G_matching hr3 (by rfl) g_matching k_matching b_matching .nil pass0 (pa_cons (pv 1) (pa_cons (pv 4) pa_nil))))
      (pss_cons (ps_for PassesOwn.never rfl (pi_range1 (by rfl) N.range (pa_cons (pe_callB call_len_seq (by rfl) N.len PySem.boot_len (pa_cons (pv 5) pa_nil)) pa_nil)) (pg_name (i := 6) sc_law.nd rfl (Or.inl rfl))
      (pss_one (ps_if (pt_val (pe_call G_rings hr1 (by rfl) g_rings k_rings b_rings .nil pass0 (pa_cons (pv 5) pa_nil))) (pss_one (ps_set (i := 5) sc_law.nd rfl (Or.inl rfl) (pe_slice sl_tupP (pv 5) po_none (po_some (pe_un un_neg pe_int))))) pss_nil)))
      (pss_cons (ps_if (pt_not (pt_val (pe_call G_is_loopless hr6 (by rfl) g_is_loopless k_is_loopless b_is_loopless .nil pass0 (pa_cons (pv 3) (pa_cons (pv 5) pa_nil))))) (pss_one (ps_ret pe_bl)) pss_nil)
      (pss_cons (ps_asg (pe_tup (pa_cons (pe_call G_critical_counts hr7 (by rfl) g_critical_counts k_critical_counts b_critical_counts .nil pass0 (pa_cons (pv 3) (pa_cons (pv 5) pa_nil))) (pa_cons (pe_call G_pick hr2 (by rfl) g_pick k_pick b_pick .nil pass0 (pa_cons (pv 1) (pa_cons (pe_lst (pa_cons pe_int (pa_cons pe_int (pa_cons pe_int (pa_cons pe_int pa_nil))))) pa_nil))) pa_nil))) (pg_tup rfl (pgs_cons (pg_name (i := 7) sc_law.nd rfl (Or.inr rfl)) (pgs_cons (pg_name (i := 8) sc_law.nd rfl (Or.inr rfl)) pgs_nil))))
      (pss_cons (ps_setLc (i := 9) (own := [("_law_degree", 10)]) (g := gName 10) (tt := tYes) rfl sc_law.nd rfl rfl (sw_true rfl rfl rfl (by decide +kernel)) (pi_range1 (by rfl) N.range (pa_cons (pe_callB call_len_seq (by rfl) N.len PySem.boot_len (pa_cons (pv 7) pa_nil)) pa_nil)) (blkOk_by (N := n_law) (sc := defScope (top 56)) (by decide +kernel)) (fun _ _ _ _ _ => (pg_name (i := 10) sc_law.nd rfl (Or.inl rfl))) (fun _ _ _ _ _ => pts_nil) (fun _ _ _ _ _ => by exact (pe_op op_add (pe_call G_holes_mod hr5 (by rfl) g_holes_mod k_holes_mod b_holes_mod .nil pass0 (pa_cons (pv 3) (pa_cons (pv 10) (pa_cons (pv 8) pa_nil)))) (pe_callTy call_int1 (by rfl) N.int (by decide +kernel) (pa_cons (pe_and (pe_cmpR op_eq (pv 10) pe_int (nomark _)) (pe_one (pe_cmpR (op_neK (K := K) rfl hu64) (pv 4) (pe_lst pa_nil) (nomark _)))) pa_nil)))))
      (pss_cons (ps_for PassesOwn.never rfl (pi_range1 (by rfl) N.range (pa_cons (pe_callB call_len_seq (by rfl) N.len PySem.boot_len (pa_cons (pv 7) pa_nil)) pa_nil)) (pg_name (i := 10) sc_law.nd rfl (Or.inl rfl))
      (pss_cons (ps_if (pt_cmpR op_lt (pe_ix ix_tup (pv 7) (pv 10) (fun _ _ => rfl)) (pe_ix ix_list (pv 9) (pv 10) (fun _ _ => rfl)) (nomark _)) (pss_one (ps_ret pe_bl)) pss_nil)
      (pss_cons (ps_set (i := 11) sc_law.nd rfl (Or.inl rfl) pe_int)
      (pss_cons (ps_for PassesOwn.never rfl (pi_range1 (by rfl) N.range (pa_cons (pe_op op_add (pv 10) pe_int) pa_nil)) (pg_name (i := 12) sc_law.nd rfl (Or.inl rfl))
      (pss_one (ps_set (i := 11) sc_law.nd rfl (Or.inl rfl) (pe_op op_add (pv 11) (pe_op op_mul (pe_op op_sub (pe_ix (ix_tupK (K := K) rfl) (pv 7) (pv 12) (fun _ _ => rfl)) (pe_ix ix_list (pv 9) (pv 12) (fun _ _ => rfl))) (pe_op op_sub pe_int (pe_op op_mul pe_int (pe_op op_mod (pe_callTy call_int1 (by rfl) N.int (by decide +kernel) (pa_cons (pe_op op_sub (pv 10) (pv 12)) pa_nil)) pe_int))))))))
      (pss_one (ps_if (pt_cmpR op_lt (pv 11) pe_int (nomark _)) (pss_one (ps_ret pe_bl)) pss_nil))))))
      (pss_cons (ps_set (i := 13) sc_law.nd rfl (Or.inl rfl) (pe_callB (cr_sum rfl) (by rfl) N.sum (by decide +kernel) (pa_cons (pe_lc (own := [("_law_at", 12)]) (g := gName 12) (tt := tYes) rfl sc_law.nd (pi_range1 (by rfl) N.range (pa_cons (pe_callB call_len_seq (by rfl) N.len PySem.boot_len (pa_cons (pv 7) pa_nil)) pa_nil)) (blkOk_by (N := n_law) (sc := defScope (top 56)) (by decide +kernel)) (fun _ _ _ _ _ => (pg_name (i := 12) sc_law.nd rfl (Or.inl rfl))) (fun _ _ _ _ _ => pts_nil) (fun _ _ _ _ _ => by exact (pe_op op_mul (pe_ix (ix_tupK (K := K) rfl) (pv 7) (pv 12) (fun _ _ => rfl)) (pe_op op_sub pe_int (pe_op op_mul pe_int (pe_op op_mod (pe_callTy call_int1 (by rfl) N.int (by decide +kernel) (pa_cons (pv 12) pa_nil)) pe_int)))))) pa_nil)))
      (pss_one (ps_ret (pe_cmpR op_eq (pv 13) (pe_op op_add (pe_call G_euler_of hr2 (by rfl) g_euler_of k_euler_of b_euler_of .nil pass0 (pa_cons (pv 3) pa_nil)) pe_int) (nomark _))))))))))))), ?_⟩
    -- row
    refine ⟨_, rfl, by simp [sizeLine_eq], fun R hR => ?_⟩
    have s1 : Same H (upd H R (.lst [.ref a, .int 0, .int 3396, .int 0])) := same_upd hR
    have rw1 : Rw (upd H R (.lst [.ref a, .int 0, .int 3396, .int 0])) R a := ⟨0, 3396, 0, upd_same, by decide, by decide, by decide⟩
    have sc1 : Scr K (upd H R (.lst [.ref a, .int 0, .int 3396, .int 0])) R a := by
      refine ⟨ns, fun H' b => ?_⟩
      rcases hS with (h | ⟨o, h⟩) | h
      · exact .inl (.inl (b _ _ (ne_of_none h hR) (s1 _ _ h)))
      · exact .inl (.inr ⟨o, b _ _ (ne_of_none h hR) (s1 _ _ h)⟩)
      · exact .inr h
    generalize upd H R (.lst [.ref a, .int 0, .int 3396, .int 0]) = H1 at s1 rw1 sc1
    -- simplices_here
    refine ⟨_, rfl, R, a, rfl, rw1, sc1, fun H2 tb xs S b2 rw2 htb tS dr => ?_⟩
    have sc2 := sc1.but b2
    -- shape, faces_here
    refine ⟨_, rfl, ?_⟩
    intro x dx nx ndx nex
    have s3 : Same H2 (upd (upd H2 dx (.own x)) x (.ins C dx [])) := fun b o e => by
      rw [upd_ne (ne_of_none e nx), upd_ne (ne_of_none e ndx)]
      exact e
    have xR : x ≠ R := rw2.ne nx
    refine ⟨x, dx, tb, xs, S, rfl, upd_same, .inl (s3 _ _ htb), tS.same s3, dr, fun H4 d F b4 sh4 isF => ⟨rfl, ?_⟩⟩
    have s4 : Same H2 H4 := fun b o e => b4 b o (ne_of_none e nx) (s3 b o e)
    have fc : Fc F := sh4.fd.fc
    refine ⟨_, rfl, tb, xs, S, rfl, .inl (s4 _ _ htb), tS.same s4, dr, fun H5 lf ys G s5 hlf0 hlf tG isG hGl => ?_⟩
    refine ⟨by simp [sizeLine_eq], fun t2 ht2 => ⟨t2, _, rfl, SqT.of upd_same, rfl, _, _, rfl, _, _, rfl, rfl, ?_⟩⟩
    have s6 : Same H5 (upd H5 t2 (.tup [.ref x, .ref lf])) := same_upd ht2
    have s6' : Same H2 (upd H5 t2 (.tup [.ref x, .ref lf])) := (s4.trans s5).trans s6
    have sh6 := (sh4.same s5).same s6
    have hlf6 := s6 _ _ hlf
    have tG6 := tG.same s6
    have lfR : lf ≠ R := (rw2.same s4).ne hlf0
    generalize upd H5 t2 (.tup [.ref x, .ref lf]) = H6 at s6 s6' sh6 hlf6 tG6
    have rw6 := rw2.same s6'
    have sc6 := sc2.but (But.of_same s6')
    have fcG : Fc G := Fc.of dr isG hGl
    have hGF : ∀ y, y ∈ G ↔ y ∈ F := fun y => by rw [isG.mem, isF.mem]
    have hGe : G = [] ↔ F = [] := by
      constructor
      · intro z; exact List.eq_nil_iff_forall_not_mem.mpr fun y hy => by have := (hGF y).mpr hy; rw [z] at this; cases this
      · intro z; exact List.eq_nil_iff_forall_not_mem.mpr fun y hy => by have := (hGF y).mp hy; rw [z] at this; cases this
    -- pairs = matching(row, faces_here)
    refine ⟨_, rfl, _, rfl, R, a, lf, ys, G, rfl, rw6, sc6, hlf6, lfR, tG6, fcG, fun H7 tp ps M b7 rw7 hpl tM matG => ?_⟩
    obtain ⟨uR, hR6⟩ := rw6.lst
    have mat0 : Mat F M := matG.perm fun y hy => (hGF y).mp hy
    have sh7 := sh6.but hR6 b7
    have hlf7 := b7 _ _ lfR hlf6
    have tG7 := tG6.but hR6 (fun _ z => nomatch z) b7
    have sc7 := sc6.but b7
    have hM0 := mat0.few fc
    have hpsl := Paired.length tM
    clear sh6 hlf6 tG6 sc6 rw6 s6 s6' hR6 b7 sh4 b4 s4 s5 s3 matG
    -- for turn in range(len(pairs))
    refine ⟨_, rfl, tp, ps, rfl, .inr hpl.seq, _, rfl, rng1 (by omega) ?_⟩
    refine for_it walk_r1 (fun i σ H8 => ∃ (u6 : Option V) (tp : Addr) (ps : List V) (M' : List (Fa × Fa)), σ = [some (.ref a), some (.ref R), some (.ref tb), some (.ref x), some (.ref lf), some (.ref tp), u6, none, none, none, none, none, none, none] ∧
        Same H7 H8 ∧ PlT H8 tp ps ∧ PrTs H8 ps M' ∧ Mat F M' ∧ (Acyc M' ∨ M'.length + i ≤ M.length))
      ⟨none, tp, ps, M, rfl, Same.refl _, hpl, tM, mat0, .inr (by omega)⟩ (fun _ _ _ _ _ => trivial) ?_ ?_
    · rintro i v _ _ H8 hi ⟨u6, tp, ps, M', rfl, s8, hpl8, tM8, mat8, hac⟩ ⟨rfl, rfl⟩
      have hpl8l := Paired.length tM8
      refine ⟨_, rfl, tp, F, ps, M', rfl, hpl8, tM8, mat8, fc, fun H9 b s9 hb => ⟨_, rfl, ?_⟩⟩
      have hpl9 := hpl8.same s9
      have tM9 := tM8.same s9
      cases b with
      | false =>
        exact iteF ⟨_, tp, ps, M', rfl, s8.trans s9, hpl9, tM9, mat8, .inl (hb rfl)⟩
      | true =>
        refine iteT ⟨_, rfl, _, rfl, _, rfl, tp, ps, rfl, hpl9.seq, fun wh => ?_, fun nwh p o hp ho hc => ?_⟩
        · rw [HT.sIx_none, sIx_m1] at wh
          have h0 : M' = [] := by
            refine List.length_eq_zero_iff.mp ?_
            omega
          rw [h0] at tM9 mat8
          exact ⟨_, tp, ps, [], rfl, s8.trans s9, hpl9, tM9, mat8, .inl Acyc.nil⟩
        · rw [cut_last] at *
          refine ⟨_, p, _, M'.take (M'.length - 1), rfl, Same.upd' (s8.trans s9) hp, ⟨o, ho, hc, upd_same⟩, ?_, mat8.take _, ?_⟩
          · rw [hpl8l]
            exact PrTs.same (same_upd hp) (paired_take _ tM9)
          · rcases hac with z | z
            · exact .inl (z.sub fun p hp => List.mem_of_mem_take hp)
            · rw [HT.sIx_none, sIx_m1] at nwh
              exact .inr (by rw [List.length_take]; omega)
    rintro _ H8 ⟨u6, tp, ps, M', rfl, s8, hpl8, tM8, mat, hac⟩
    have ac : Acyc M' := by
      rcases hac with z | z
      · exact z
      · rw [List.length_eq_zero_iff.mp (show M'.length = 0 by omega)]
        exact Acyc.nil
    have sh8 := sh7.same s8
    have rw8 := rw7.same s8
    have hlf8 := s8 _ _ hlf7
    have tG8 := tG7.same s8
    have sc8 := sc7.but (But.of_same s8)
    clear hac sh7 hlf7 tG7 sc7 rw7 tM hpl mat0 hM0 hpsl s8
    -- if not is_loopless
    refine ⟨_, rfl, _, rfl, x, d, tp, F, ps, M', rfl, sh8, hpl8, tM8, mat, ac, fun H9 s9 => ⟨_, rfl, iteF ?_⟩⟩
    -- left, prime
    refine ⟨_, rfl, _, rfl, x, d, tp, F, ps, M', rfl, sh8.same s9, hpl8.same s9, tM8.same s9, mat, ac, fun H10 r m s10 hr10 dm => ?_⟩
    have sA := s9.trans s10
    refine ⟨_, rfl, by simp [sizeLine_eq], fun l4 hl4 => ?_⟩
    have s11 : Same H10 (upd H10 l4 (.lst [.int 2, .int 3, .int 5, .int 7])) := same_upd hl4
    have hl4' : upd H10 l4 (.lst [.int 2, .int 3, .int 5, .int 7]) l4 = some (.lst [.int 2, .int 3, .int 5, .int 7]) := upd_same
    have sB := sA.trans s11
    have rw11 := rw8.same sB
    have l4R : l4 ≠ R := (rw8.same sA).ne hl4
    have hr11 := s11 _ _ hr10
    generalize upd H10 l4 (.lst [.int 2, .int 3, .int 5, .int 7]) = H11 at s11 hl4' sB rw11 hr11
    refine ⟨R, a, l4, _, rfl, rw11, sc8.but (But.of_same sB), hl4', l4R, by simp, by simp, fun H12 v b12 rw12 hv => ?_⟩
    obtain ⟨p, rfl, hp⟩ : ∃ p, v = .int p ∧ Pr p := by
      simp at hv
      rcases hv with e | e | e | e
      · exact ⟨2, e, .inl rfl⟩
      · exact ⟨3, e, .inr (.inl rfl)⟩
      · exact ⟨5, e, .inr (.inr (.inl rfl))⟩
      · exact ⟨7, e, .inr (.inr (.inr rfl))⟩
    refine ⟨by simp [sizeLine_eq], fun t3 ht3 => ⟨t3, _, rfl, SqT.of upd_same, rfl, _, _, rfl, _, _, rfl, rfl, ?_⟩⟩
    obtain ⟨u11, hR11⟩ := rw11.lst
    have s13 : Same H12 (upd H12 t3 (.tup [.ref r, .int p])) := same_upd ht3
    have sh13 := ((sh8.same sB).but hR11 b12).same s13
    have hr13 := s13 _ _ (tup_but hr11 hR11 (fun _ z => nomatch z) b12)
    have lfR' : lf ≠ R := lfR
    have hlf13 := s13 _ _ (b12 _ _ lfR (sB _ _ hlf8))
    have tG13 := ((tG8.same sB).but hR11 (fun _ z => nomatch z) b12).same s13
    generalize upd H12 t3 (.tup [.ref r, .int p]) = H13 at s13 sh13 hr13 hlf13 tG13
    clear ht3 hr11 hR11 u11 sB sA s11 hl4' rw11 s10 hr10 s9
    have m4 := dm.le4 fc
    have hcl := crit_len F (ends M') m
    -- ranks
    refine ⟨_, rfl, r, _, rfl, .inr (SqT.of hr13), _, rfl, rng1 (by rw [List.length_map, hcl]; omega) fun D1 hD1 => ?_⟩
    refine lc_it walk_r1 (fun i H14 => ∃ rkL : List Int, Same H13 H14 ∧ H14 D1 = some (.lst (rkL.map V.int)) ∧ RanksOk p F i rkL) ⟨[], same_upd hD1, upd_same, rfl, fun d hd => absurd hd (Nat.not_lt_zero _)⟩ (fun _ _ _ _ => trivial) ?_ ?_
    · rintro i v _ H14 hi ⟨rkL, s14, hD14, hrk⟩ ⟨rfl, rfl⟩
      rw [List.length_map, hcl] at hi
      have hF : F ≠ [] := by
        rcases dm.ex with z | ⟨y, hy, _⟩
        · omega
        · exact List.ne_nil_of_mem hy
      refine ⟨rfl, _, rfl, _, rfl, _, rfl, x, d, F, i, p, rfl, sh13.same s14, hp, by omega, fun H15 r1 r2 s15 hr1' hr2' => ?_⟩
      have s15' := s14.trans s15
      have fin : ∀ H16 (z : Int), Same H14 H16 → z = ((sAt F (i + 1)).length : Int) - r1 - r2 + (if i = 0 then 1 else 0) → ∃ acc, H16 D1 = some (.lst acc) ∧ acc.length < sizeLine ∧
          ∃ rkL : List Int, Same H13 (upd H16 D1 (.lst (acc ++ [V.int z]))) ∧ upd H16 D1 (.lst (acc ++ [V.int z])) D1 = some (.lst (rkL.map V.int)) ∧ RanksOk p F (i + 1) rkL := fun H16 z s16 hz => by
        refine ⟨_, s16 _ _ hD14, by rw [List.length_map, hrk.1]; exact small_line (by omega), rkL ++ [z], fun b o e => ?_, ?_, ?_, fun d' hd' => ?_⟩
        · rw [upd_ne (ne_of_none e hD1)]
          exact s16 _ _ (s14 b o e)
        · rw [upd_same, List.map_append]; rfl
        · rw [List.length_append, hrk.1]; rfl
        · by_cases e : d' = i
          · subst e
            refine ⟨r1, r2, hr1', hr2', ?_⟩
            rw [List.getD_eq_getElem?_getD, List.getElem?_append_right (by rw [hrk.1]; exact Nat.le_refl _), hrk.1]
            simpa using hz
          · obtain ⟨a1, a2, h1, h2, h3⟩ := hrk.2 d' (by omega)
            refine ⟨a1, a2, h1, h2, ?_⟩
            rw [List.getD_eq_getElem?_getD, List.getElem?_append_left (by rw [hrk.1]; omega), ← List.getD_eq_getElem?_getD]
            exact h3
      refine ⟨_, rfl, rfl, _, rfl, ?_⟩
      by_cases hi0 : i = 0
      · refine ifT (decide_eq_true (by rw [hi0]; rfl)) ⟨_, rfl, by simp [sizeLine_eq], fun e he => ne_nil_f (SqL.of (same_upd he _ _ (s15' _ _ hlf13))) ((tG13.same s15').same (same_upd he)) (SqL.of upd_same) (.inr ⟨_, rfl, _, _, rfl, rfl, ?_⟩)⟩
        have hG : G ≠ [] := fun z => hF (hGe.mp z)
        refine fin _ _ (Same.upd' s15 he) ?_
        rw [decide_eq_false hG, if_pos hi0]
        rfl
      · refine ifF (decide_eq_false (fun z => hi0 (by have := V.int.inj z; omega))) (.inr ⟨_, rfl, _, _, rfl, rfl, ?_⟩)
        refine fin _ _ s15 ?_
        rw [if_neg hi0]
        rfl
    rintro H14 ⟨rkL, s14, hD14, hrk⟩
    rw [List.length_map, hcl] at hrk
    obtain ⟨g, g0, gpos, gdiff⟩ := law_diff hp fc mat ac dm hrk
    have sh14 := sh13.same s14
    have hr14 := s14 _ _ hr13
    have leftAt : ∀ k, k < m → ((crit F (ends M') m).map V.int)[k]? = some (.int ((cntF F k : Int) - cntF (ends M') k)) := fun k hk => by rw [List.getElem?_map, crit_at hk]; rfl
    have rkAt : ∀ k, k < m → (rkL.map V.int)[k]? = some (.int (rkL.getD k 0)) := fun k hk => row_at (by rw [hrk.1]; exact hk)
    clear sc8 rw8 hlf8 tG8 tM8 hpl8 sh8
    -- for degree in range(len(left))
    refine ⟨_, rfl, r, _, rfl, .inr (SqT.of hr14), _, rfl, rng1 (by rw [List.length_map, hcl]; omega) ?_⟩
    refine for_it walk_r1 (fun i σ H15 => ∃ (u6 u10 u11 u12 : Option V), σ = [some (.ref a), some (.ref R), some (.ref tb), some (.ref x), some (.ref lf), some (.ref tp), u6, some (.ref r), some (.int p), some (.ref D1), u10, u11, u12, none] ∧ Same H14 H15)
      ⟨_, none, none, none, rfl, Same.refl _⟩ (fun _ _ _ _ _ => trivial) ?_ ?_
    · rintro d' v _ _ H15 hd ⟨u6, u10, u11, u12, rfl, s15⟩ ⟨rfl, rfl⟩
      rw [List.length_map, hcl] at hd
      have hr15 := s15 _ _ hr14
      have hD15 := s15 _ _ hD14
      have hdf := gdiff d' hd
      have hp1 := gpos (d' + 1) (by omega)
      have hp0 := gpos d' (by omega)
      -- if left[degree] < ranks[degree]
      refine ⟨_, rfl, _, rfl, r, _, (d' : Int), _, rfl, rfl, SqT.of hr15, atI_nat (leftAt d' hd), _, rfl, _, rfl, D1, _, (d' : Int), _, rfl, rfl, SqL.of hD15, atI_nat (rkAt d' hd), _, _, rfl, rfl, _, rfl, ?_⟩
      refine ifF (decide_eq_false (by omega)) ?_
      -- gap
      refine ⟨_, rfl, _, _, rfl, rfl, _, rfl, by omega, by omega, ?_⟩
      refine for_it walk_r0 (fun k σ H16 => ∃ (u12 : Option V), σ = [some (.ref a), some (.ref R), some (.ref tb), some (.ref x), some (.ref lf), some (.ref tp), u6, some (.ref r), some (.int p), some (.ref D1), some (.int d'), some (.int (g k * sg ((d' : Int) - k + 1))), u12, none] ∧ H16 = H15)
        ⟨u12, by rw [g0]; simp, rfl⟩ (fun _ _ _ _ _ => trivial) ?_ ?_
      · rintro k v _ _ _ hk ⟨u12, rfl, rfl⟩ ⟨rfl, rfl⟩
        have hkm : k < m := by omega
        refine ⟨_, rfl, _, rfl, _, rfl, r, _, (k : Int), _, rfl, rfl, SqT.of hr15, atI_nat (leftAt k hkm), _, rfl, _, rfl, D1, _, (k : Int), _, rfl, rfl, SqL.of hD15, atI_nat (rkAt k hkm), _, _, rfl, rfl, ?_⟩
        refine ⟨_, rfl, _, rfl, _, _, rfl, rfl, .inl ⟨_, rfl, _, _, rfl, rfl, (by show (0 : Int) < 2; decide), _, _, rfl, rfl, .inl ⟨by decide, by decide⟩, _, _, rfl, rfl, _, _, rfl, rfl, .inr ⟨?_, ?_⟩, _, _, rfl, rfl, ?_⟩⟩
        · have := Int.emod_nonneg ((d' : Int) - k) (show (2 : Int) ≠ 0 by decide)
          have := Int.emod_lt_of_pos ((d' : Int) - k) (show (0 : Int) < 2 by decide)
          omega
        · have := Int.emod_nonneg ((d' : Int) - k) (show (2 : Int) ≠ 0 by decide)
          have := Int.emod_lt_of_pos ((d' : Int) - k) (show (0 : Int) < 2 by decide)
          omega
        · refine ⟨some (.int (k : Int)), ?_, rfl⟩
          have e := gap_step g d' k
          rw [← gdiff k hkm] at e
          rw [← e]
          rfl
      · rintro _ _ ⟨u12, rfl, rfl⟩
        refine ⟨_, rfl, _, _, rfl, rfl, _, rfl, ?_⟩
        have e : g ((d' : Int) + 1).toNat * sg ((d' : Int) - (((d' : Int) + 1).toNat : Nat) + 1) = g (d' + 1) := by
          rw [show ((d' : Int) + 1).toNat = d' + 1 by omega, show (d' : Int) - ((d' + 1 : Nat) : Int) + 1 = 0 by omega]
          show g (d' + 1) * 1 = _
          omega
        refine ifF (decide_eq_false (by rw [e]; omega)) ⟨_, _, _, _, rfl, s15⟩
    rintro _ H15 ⟨u6, u10, u11, u12, rfl, s15⟩
    have hr15 := s15 _ _ hr14
    have sh15 := sh14.same s15
    -- total
    refine ⟨_, rfl, r, _, rfl, .inr (SqT.of hr15), _, rfl, rng1 (by rw [List.length_map, hcl]; omega) fun D2 hD2 => ?_⟩
    refine lc_it walk_r1 (GP H15 D2 (fun i acc _ => acc = ((List.range i).map fun k => ((cntF F k : Int) - cntF (ends M') k) * sg k).map V.int)) (gp_start hD2 rfl) (fun _ _ _ _ => trivial) ?_ ?_
    · rintro i v _ H16 hi ⟨s16, acc, hD16, racc⟩ ⟨rfl, rfl⟩
      rw [List.length_map, hcl] at hi
      refine ⟨rfl, _, rfl, _, rfl, r, _, (i : Int), _, rfl, rfl, SqT.of (s16 _ _ hr15), atI_nat (leftAt i hi), ?_⟩
      refine ⟨_, rfl, .inl ⟨_, rfl, _, _, rfl, rfl, (by show (0 : Int) < 2; decide), _, _, rfl, rfl, .inl ⟨by decide, by decide⟩, _, _, rfl, rfl, _, _, rfl, rfl, .inr ⟨?_, ?_⟩, ?_⟩⟩
      · have := Int.emod_lt_of_pos (i : Int) (show (0 : Int) < 2 by decide)
        omega
      · have := Int.emod_nonneg (i : Int) (show (2 : Int) ≠ 0 by decide)
        omega
      · refine gp_grow off_pure hD2 s16 hD16 (Same.refl _) ?_ ?_
        · rw [racc, List.length_map, List.length_map, List.length_range]
          exact small_line (by omega)
        · rw [racc, List.range_succ, List.map_append, List.map_append]; rfl
    rintro H16 ⟨s16, acc, hD16, racc⟩
    rw [List.length_map, hcl] at racc
    subst racc
    refine ⟨D2, _, rfl, SqL.of hD16, ?_⟩
    -- return total == euler_of(shape) + 1
    refine ⟨_, rfl, _, rfl, x, d, F, rfl, sh15.same s16, fun H17 m' s17 dm' => ?_⟩
    have em : m' = m := dm'.uniq dm fc
    subst em
    refine ⟨_, _, rfl, rfl, rfl, ?_⟩
    have etot : ((List.range m').map fun k => ((cntF F k : Int) - cntF (ends M') k) * sg k).sum = eul (cnts F m') + 1 := by
      rw [law_sum fc mat dm]
      exact eul_sum F m4
    rw [etot, decide_eq_true rfl]
    exact q H17
end
end K96

/-! What the top has written, brought together; the end. -/
namespace K96
open PySem PySem.Spec PyProof.Rows L2
theorem def_mk {K : PySem.W.Frag} {h : Heap} {mg : Str → Option Value} {x : Str} {st : Stmt} (X : K.In h) (G : h.Ns mainGlobals mg) {f : Addr} {oc : Value} {od an : Option Addr} {osl : Array (Option Value)} {kV doc pm cdv ct : Value}
    (a : PySem.W.nsIn K mainGlobals x = some (some (.ref f))) (l : K.lookup f = some ⟨oc, od, .func (PySem.W.fnOf x x (defArgs st) (defBody st) (defScope st) .none kV doc pm an cdv ct), osl⟩)
    (c : PySem.W.codeIn K cdv x = true) (k : PySem.W.keepIn K (.ref f) = true) : Def K mg x st := ⟨f, _, fun_mk l c k, PySem.W.mg_of X G a⟩
theorem int_mk {K : PySem.W.Frag} {h : Heap} {mg : Str → Option Value} {x : Str} {i : Int} {t : Tok} (X : K.In h) (G : h.Ns mainGlobals mg) (a : PySem.W.nsIn K mainGlobals x = some (some (.int i t))) : ∃ t, mg x = some (.int i t) := ⟨t, PySem.W.mg_of X G a⟩
theorem prF_mk {K : PySem.W.Frag} {h : Heap} {mg : Str → Option Value} (X : K.In h) (G : h.Ns mainGlobals mg) {PR : Addr} {od : Option Addr} {n : Nat} {osl : Array (Option Value)} {t1 t2 t3 t4 : Tok}
    (a : PySem.W.nsIn K mainGlobals "PRIMES" = some (some (.ref PR))) (l : K.lookup PR = some ⟨.type "tuple", od, .seq #[.int 2 t1, .int 3 t2, .int 5 t3, .int 7 t4] n, osl⟩) : PrF K mg :=
  ⟨PR, PySem.W.mg_of X G a, fun H => .inr ⟨_, _, _, l, rfl, rfl, by rw [sizeLine_eq]; exact Nat.le_of_ble_eq_true rfl, .cons ⟨_, rfl⟩ (.cons ⟨_, rfl⟩ (.cons ⟨_, rfl⟩ (.cons ⟨_, rfl⟩ .nil)))⟩⟩
theorem kit_self {K : PySem.W.Frag} (C : Addr) : PySem.W.kitOne K (.ref C) (.ref C) = some true := by
  unfold PySem.W.kitOne
  rw [if_pos]
  show (Value.ref C == Value.ref C) = true
  exact beq_self_eq_true _
/-- the class as the top has made it, its __init__ -/
structure CxAll (K : PySem.W.Frag) (mg : Str → Option Value) (C f : Addr) (fd : FuncData) : Prop where
  T : CxF K mg C
  M : Mk K C f
  F : Fun K "__init__" "Complex.__init__" (inClass (top 22) 0) f fd
theorem cx_mk {K : PySem.W.Frag} {h : Heap} {mg : Str → Option Value} (X : K.In h) (G : h.Ns mainGlobals mg) {C f : Addr} {oc : Value} {od an : Option Addr} {osl : Array (Option Value)} {kV doc pm cdv ct : Value}
    (aC : PySem.W.nsIn K mainGlobals "Complex" = some (some (.ref C))) (a1 : PySem.W.findIn K (.ref C) "__init__" = some (some (.ref f))) (i1 : PySem.W.isFn K (.ref f) = true)
    (l1 : K.lookup f = some ⟨oc, od, .func (PySem.W.fnOf "__init__" "Complex.__init__" (defArgs (inClass (top 22) 0)) (defBody (inClass (top 22) 0)) (defScope (inClass (top 22) 0)) .none kV doc pm an cdv ct), osl⟩)
    (c1 : PySem.W.codeIn K cdv "Complex.__init__" = true) (k1 : PySem.W.keepIn K (.ref f) = true)
    (pg : PySem.W.plainGet K C Str.empty = true) (hd : PySem.W.hasDictIn K C = true) (po : PySem.W.plainOver K C = true) (sa : PySem.W.findIn K (.ref C) "__setattr__" = some (some (.builtin "object.__setattr__"))) (mk : PySem.W.makesIn K C = true) (kc : PySem.W.keepIn K (.ref C) = true)
    (nF : PySem.W.findIn K (.ref C) "faces" = some none) (nT : PySem.W.findIn K (.ref C) "tops" = some none)
    (ha : PySem.W.findIn K (.ref C) "__class__" = some (some (.builtin "object.__class__"))) (hn : PySem.W.specialIn K (.builtin "object.__class__") "__get__" = some (some (.builtin "getset_descriptor.__get__")))
    (htk : PySem.W.takesIn K (.builtin "object.__class__") = some true) (hm : PySem.W.mroIn K C (.type "object") = some true) :
    ∃ C f fd, CxAll K mg C f fd := ⟨C, f, _, ⟨⟨⟨pg, hd, po, sa⟩, ha, hn, htk, hm, kit_self C⟩, nF, nT, PySem.W.mg_of X G aC⟩, ⟨mk, a1, i1, kc⟩, fun_mk l1 c1 k1⟩
/-- all that the top has written and the walk asks -/
structure Wr (K : PySem.W.Frag) (mg : Str → Option Value) : Prop where
  N : Nm mg
  d1 : Def K mg "is_integer" (top 1)
  d2 : Def K mg "is_in" (top 2)
  d3 : Def K mg "is_list" (top 3)
  d16 : Def K mg "is_ascending" (top 16)
  d17 : Def K mg "is_simplex" (top 17)
  d18 : Def K mg "parts_of" (top 18)
  d19 : Def K mg "generated" (top 19)
  d20 : Def K mg "in_order" (top 20)
  d21 : Def K mg "maximal" (top 21)
  d23 : Def K mg "need_complex" (top 23)
  d24 : Def K mg "counts_in" (top 24)
  d25 : Def K mg "euler_of" (top 25)
  d27 : Def K mg "is_pairing" (top 27)
  d28 : Def K mg "has_ring" (top 28)
  d29 : Def K mg "is_loopless" (top 29)
  d30 : Def K mg "critical_counts" (top 30)
  d32 : Def K mg "tidy" (top 32)
  d33 : Def K mg "boundary_in" (top 33)
  d34 : Def K mg "simplices_at" (top 34)
  d35 : Def K mg "rows_at" (top 35)
  d36 : Def K mg "need_degree" (top 36)
  d39 : Def K mg "need_prime" (top 39)
  d40 : Def K mg "inverse_of" (top 40)
  d41 : Def K mg "reduced" (top 41)
  d42 : Def K mg "rank_in" (top 42)
  d44 : Def K mg "count_at" (top 44)
  d45 : Def K mg "holes_in" (top 45)
  d46 : Def K mg "holes_mod" (top 46)
  d48 : Def K mg "_law_taken" (top 48)
  d49 : Def K mg "_law_pick" (top 49)
  d50 : Def K mg "_law_simplex" (top 50)
  d51 : Def K mg "_law_simplices" (top 51)
  d52 : Def K mg "_law_faces" (top 52)
  d53 : Def K mg "_law_wide" (top 53)
  d54 : Def K mg "_law_matching" (top 54)
  d55 : Def K mg "_law_rings" (top 55)
  gV : ∃ t, mg "MOST_VERTEX" = some (.int 30 t)
  gL : ∃ t, mg "MOST_LENGTH" = some (.int 8 t)
  gF : ∃ t, mg "MOST_FACES" = some (.int 400 t)
  gP : PrF K mg
  cx : ∃ C f fd, CxAll K mg C f fd
theorem law_all {l : PySem.W.OpenLaw} {w : World} {K : PySem.W.Frag} {h : Heap} {mg : Str → Option Value} {fa : Addr} (X : K.In h) (G : h.Ns mainGlobals mg) (hfa : mg "law" = some (.ref fa)) (W : Wr K mg)
    {f : Addr} {oc : Value} {od an : Option Addr} {osl : Array (Option Value)} {kV doc pm cdv ct : Value}
    (a : PySem.W.nsIn K mainGlobals "law" = some (some (.ref f))) (lk : K.lookup f = some ⟨oc, od, .func (PySem.W.fnOf "law" "law" (defArgs (top 56)) (defBody (top 56)) (defScope (top 56)) .none kV doc pm an cdv ct), osl⟩)
    (c : PySem.W.codeIn K cdv "law" = true) (k : PySem.W.keepIn K (.ref f) = true) :
    ∃ fd : FuncData, (∀ (s : Shared) (v : Value), BindsTo s fd ⟨[v], []⟩ [("_law_script", v)]) ∧ ∀ base : Heap, K.In base → base.Ns mainGlobals mg → FnOk l.prog w K mg base CX0 8 fa fd ["_law_script"] (spLaw K) := by
  have e := hfa.symm.trans (PySem.W.mg_of X G a)
  cases e
  refine ⟨PySem.W.fnOf "law" "law" (defArgs (top 56)) (defBody (top 56)) (defScope (top 56)) .none kV doc pm an cdv ct, fun s v => .of_eq rfl, fun base _ _ => ?_⟩
  have FL := fun_mk (st := top 56) lk c k
  obtain ⟨C, fC, fdC, cx⟩ := W.cx
  have T := cx.T
  have N := W.N
  have bC : Binds K fdC ["self", "simplices"] [] := cx.F.binds fun _ _ _ _ _ _ us hl => match us, hl with | [_, _], _ => rfl
  have k1 : Cal l.prog w K mg base _ _ _ _ := ok_is_integer N W.d1
  have k2 := ok_is_in W.d2 k1
  have k3 : Cal l.prog w K mg base _ _ _ _ := ok_is_list N W.d3
  have k16 := ok_is_asc N W.d16 W.gV k3 k2
  have k17 := ok_is_simplex W.d17 W.gL k16
  have k18 : Cal l.prog w K mg base _ _ _ _ := ok_parts_of N W.d18
  have k19 := ok_generated N W.d19 W.gF k18
  have k20 : Cal l.prog w K mg base _ _ _ _ := ok_in_order N W.d20
  have k21 : Cal l.prog w K mg base _ _ _ _ := ok_maximal N W.d21
  have kI := ok_init N T W.gF cx.F k3 k17 k19 k21
  have k23 : Cal l.prog w K mg base _ _ _ _ := ok_need_complex N T W.d23
  have k24 : Cal l.prog w K mg base _ _ _ _ := ok_counts_in N T W.d24
  have k25 := ok_euler_of N W.d25 k23 k24
  have k27 := ok_is_pairing N T W.d27 k3 k17
  have k28 : Cal l.prog w K mg base _ _ _ _ := ok_has_ring N W.d28
  have k29 := ok_is_loopless W.d29 k23 k27 k28
  have k30 := ok_critical_counts N W.d30 k29 k24
  have k32 : Cal l.prog w K mg base _ _ _ _ := ok_tidy N W.d32
  have k33 := ok_boundary_in N W.d33 k32
  have k34 := ok_simplices_at N T W.d34 k20
  have k35 := ok_rows_at N W.d35 k34 k33
  have k36 := ok_need_degree W.d36 k2
  have k39 := ok_need_prime W.d39 W.gP k1
  have k40 : Cal l.prog w K mg base _ _ _ _ := ok_inverse_of N W.d40
  have k41 := ok_reduced N W.d41 k40
  have k42 := ok_rank_in N W.d42 k41
  have k44 := ok_count_at N W.d44 k34
  have k45 := ok_holes_in W.d45 k42 k35 k44
  have k46 := ok_holes_mod W.d46 k23 k36 k39 k45
  have k48 : Cal l.prog w K mg base _ _ _ _ := ok_taken N W.d48
  have k49 := ok_pick N W.d49 k48
  have k50 := ok_simplex N W.d50 k48
  have k51 := ok_simplices N W.d51 k48 k50
  have k52 : Cal l.prog w K mg base _ _ _ _ := ok_faces N W.d52
  have k53 := ok_wide N W.d53 k48 k51 k49
  have k54 := ok_matching N W.d54 k48 k49
  have k55 : Cal l.prog w K mg base _ _ _ _ := ok_rings N W.d55
  exact ok_law N T FL cx.M kI bC k53 k52 k54 k55 k29 k30 k49 k46 k25
theorem walk {l : PySem.W.OpenLaw} {q : Program} {loose : List Str} {XP : (Str → Option Value) → Heap → Prop} {YP : World → Heap → Prop} {d : DefRec} {K : Params → PySem.W.Frag} (hn : l.most = some 63) (hdf : d.params.defaults = [])
    (hY : ∀ (w : World) (h : Heap), YP w h → (K w.params).In h)
    (F : ∀ (w : World) (mg : Str → Option Value) (fa : Addr) (h : Heap), (K w.params).In h → h.Ns mainGlobals mg → mg d.name = some (.ref fa) →
      ∃ fd : FuncData, (∀ (s : Shared) (u : Value), BindsTo s fd ⟨[u], []⟩ [("_law_script", u)]) ∧ ∀ base : Heap, (K w.params).In base → base.Ns mainGlobals mg → FnOk l.prog w (K w.params) mg base CX0 8 fa fd ["_law_script"] (spLaw (K w.params))) :
    PySem.W.WalkO q loose XP YP l.row.toRowW d [] (fun f vs => PySem.call f vs) :=
  L2.walk_of (n := 63) (k := 8) (x := "_law_script") (CX := fun _ => CX0) (sp := fun w => spLaw (K w.params)) hn (by decide) hdf ⟨rfl, by decide, by decide⟩ hY F (fun _ _ a ns hl _ hS => ⟨a, ns, rfl, hS, fun _ => rfl⟩) fun _ _ _ _ _ z => z
end K96
open PySem PySem.W PyProof.Rows
set_option maxRecDepth 100000 in
set_option maxHeartbeats 0 in
theorem PySem.Challenge.cw_shapeholes_k96_whole_bounds_of_holes_holds : PySem.Challenge.rw_shapeholes_k96_whole_bounds_of_holes.Holds := by
  w_on; o_law; k_head; (case hw => w_witness2)
  k_fill
  refine K96.walk (l := PySem.Challenge.rw_shapeholes_k96_whole_bounds_of_holes) rfl rfl (fun w h Y => PySem.W.kIn_of Y) ?F
  case F =>
    intro w mg fa h KX G hmg
    refine K96.law_all KX G hmg ?W (by k_is) (by k_is) (by k_is) (by k_is)
    have n1 := fun {x : Str} (z : PySem.W.nsIn _ mainGlobals x = some none) => PySem.W.mg_none_of KX G z
    refine' { N := { isinst := ?n_isinst, int := ?n_int, bool := ?n_bool, tuple := ?n_tuple, list := ?n_list, dict := ?n_dict, set := ?n_set, len := ?n_len, all := ?n_all, any := ?n_any, zip := ?n_zip, sorted := ?n_sorted, range := ?n_range, max := ?n_max, min := ?n_min, sum := ?n_sum, enum := ?n_enum }, d1 := ?d1, d2 := ?d2, d3 := ?d3, d16 := ?d16, d17 := ?d17, d18 := ?d18, d19 := ?d19, d20 := ?d20, d21 := ?d21, d23 := ?d23, d24 := ?d24, d25 := ?d25, d27 := ?d27, d28 := ?d28, d29 := ?d29, d30 := ?d30, d32 := ?d32, d33 := ?d33, d34 := ?d34, d35 := ?d35, d36 := ?d36, d39 := ?d39, d40 := ?d40, d41 := ?d41, d42 := ?d42, d44 := ?d44, d45 := ?d45, d46 := ?d46, d48 := ?d48, d49 := ?d49, d50 := ?d50, d51 := ?d51, d52 := ?d52, d53 := ?d53, d54 := ?d54, d55 := ?d55, gV := ?gV, gL := ?gL, gF := ?gF, gP := ?gP, cx := ?cx }
    (case n_isinst => exact PySem.W.mg_none_of KX G (by k_is))
    (case n_int => exact PySem.W.mg_none_of KX G (by k_is))
    (case n_bool => exact PySem.W.mg_none_of KX G (by k_is))
    (case n_tuple => exact PySem.W.mg_none_of KX G (by k_is))
    (case n_list => exact PySem.W.mg_none_of KX G (by k_is))
    (case n_dict => exact PySem.W.mg_none_of KX G (by k_is))
    (case n_set => exact PySem.W.mg_none_of KX G (by k_is))
    (case n_len => exact PySem.W.mg_none_of KX G (by k_is))
    (case n_all => exact PySem.W.mg_none_of KX G (by k_is))
    (case n_any => exact PySem.W.mg_none_of KX G (by k_is))
    (case n_zip => exact PySem.W.mg_none_of KX G (by k_is))
    (case n_sorted => exact PySem.W.mg_none_of KX G (by k_is))
    (case n_range => exact PySem.W.mg_none_of KX G (by k_is))
    (case n_max => exact PySem.W.mg_none_of KX G (by k_is))
    (case n_min => exact PySem.W.mg_none_of KX G (by k_is))
    (case n_sum => exact PySem.W.mg_none_of KX G (by k_is))
    (case n_enum => exact PySem.W.mg_none_of KX G (by k_is))
    (case d1 => exact K96.def_mk KX G (by k_is) (by k_is) (by k_is) (by k_is))
    (case d2 => exact K96.def_mk KX G (by k_is) (by k_is) (by k_is) (by k_is))
    (case d3 => exact K96.def_mk KX G (by k_is) (by k_is) (by k_is) (by k_is))
    (case d16 => exact K96.def_mk KX G (by k_is) (by k_is) (by k_is) (by k_is))
    (case d17 => exact K96.def_mk KX G (by k_is) (by k_is) (by k_is) (by k_is))
    (case d18 => exact K96.def_mk KX G (by k_is) (by k_is) (by k_is) (by k_is))
    (case d19 => exact K96.def_mk KX G (by k_is) (by k_is) (by k_is) (by k_is))
    (case d20 => exact K96.def_mk KX G (by k_is) (by k_is) (by k_is) (by k_is))
    (case d21 => exact K96.def_mk KX G (by k_is) (by k_is) (by k_is) (by k_is))
    (case d23 => exact K96.def_mk KX G (by k_is) (by k_is) (by k_is) (by k_is))
    (case d24 => exact K96.def_mk KX G (by k_is) (by k_is) (by k_is) (by k_is))
    (case d25 => exact K96.def_mk KX G (by k_is) (by k_is) (by k_is) (by k_is))
    (case d27 => exact K96.def_mk KX G (by k_is) (by k_is) (by k_is) (by k_is))
    (case d28 => exact K96.def_mk KX G (by k_is) (by k_is) (by k_is) (by k_is))
    (case d29 => exact K96.def_mk KX G (by k_is) (by k_is) (by k_is) (by k_is))
    (case d30 => exact K96.def_mk KX G (by k_is) (by k_is) (by k_is) (by k_is))
    (case d32 => exact K96.def_mk KX G (by k_is) (by k_is) (by k_is) (by k_is))
    (case d33 => exact K96.def_mk KX G (by k_is) (by k_is) (by k_is) (by k_is))
    (case d34 => exact K96.def_mk KX G (by k_is) (by k_is) (by k_is) (by k_is))
    (case d35 => exact K96.def_mk KX G (by k_is) (by k_is) (by k_is) (by k_is))
    (case d36 => exact K96.def_mk KX G (by k_is) (by k_is) (by k_is) (by k_is))
    (case d39 => exact K96.def_mk KX G (by k_is) (by k_is) (by k_is) (by k_is))
    (case d40 => exact K96.def_mk KX G (by k_is) (by k_is) (by k_is) (by k_is))
    (case d41 => exact K96.def_mk KX G (by k_is) (by k_is) (by k_is) (by k_is))
    (case d42 => exact K96.def_mk KX G (by k_is) (by k_is) (by k_is) (by k_is))
    (case d44 => exact K96.def_mk KX G (by k_is) (by k_is) (by k_is) (by k_is))
    (case d45 => exact K96.def_mk KX G (by k_is) (by k_is) (by k_is) (by k_is))
    (case d46 => exact K96.def_mk KX G (by k_is) (by k_is) (by k_is) (by k_is))
    (case d48 => exact K96.def_mk KX G (by k_is) (by k_is) (by k_is) (by k_is))
    (case d49 => exact K96.def_mk KX G (by k_is) (by k_is) (by k_is) (by k_is))
    (case d50 => exact K96.def_mk KX G (by k_is) (by k_is) (by k_is) (by k_is))
    (case d51 => exact K96.def_mk KX G (by k_is) (by k_is) (by k_is) (by k_is))
    (case d52 => exact K96.def_mk KX G (by k_is) (by k_is) (by k_is) (by k_is))
    (case d53 => exact K96.def_mk KX G (by k_is) (by k_is) (by k_is) (by k_is))
    (case d54 => exact K96.def_mk KX G (by k_is) (by k_is) (by k_is) (by k_is))
    (case d55 => exact K96.def_mk KX G (by k_is) (by k_is) (by k_is) (by k_is))
    (case gV => exact K96.int_mk KX G (by k_is))
    (case gL => exact K96.int_mk KX G (by k_is))
    (case gF => exact K96.int_mk KX G (by k_is))
    (case gP => exact K96.prF_mk KX G (by k_is) (by k_is))
    (case cx => exact K96.cx_mk KX G (by k_is) (by k_is) (by k_is) (by k_is) (by k_is) (by k_is) (by k_is) (by k_is) (by k_is) (by k_is) (by k_is) (by k_is) (by k_is) (by k_is) (by k_is) (by k_is) (by k_is) (by k_is))
