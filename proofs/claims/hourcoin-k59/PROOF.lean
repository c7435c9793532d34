import PyProof.Rows.All
import HandS.TupSets
import HandS.SetBool
import PyProof.EqKinds
import KE.SortData
import HandS.SetIn
import HandS.Strs
import Wide.All
import OpenK.AllK
import Wide.FinOn
import KE.KStateDown
import Lean
import HandS.ForMost
import HandS.More
import HandS.Exc
import HandS.TryOnly
import HandS.WordsExc
import HandS.CallSlots
import HandS.Steps
import HandS.Style
import HandS.TupAny
import HandS.Deep
import PyProof.ReprRoads
import HandS.RaiseMore
import HandS.Flow
import HandS.IsInst
import HandS.ExcOwn
import HandS.Walk
import HandS.Defaults
import HandS.HeadEnd
import KE.KRevSl
import KE.KDictZip
import KE.KTurns
import HandS.Iter
import HandS.Conv
import HandS.Zip
import HandS.Head0
import HandS.Head1
import HandS.Head2
import HandS.HeadHook1
import HandS.HeadHook2
import HandS.HeadHook4
import PySem.Challenge.RW_hourcoin_k59_whole_books_read_back
import Wide.Once
import PyProof.ReprBulk
set_option Elab.async false
set_option linter.all false
set_option maxRecDepth 100000
set_option maxHeartbeats 4000000
/-! VS, part 1: tuples of whole numbers and truth values as the things of a set; the search. -/
namespace VS
open PySem PySem.Spec PyProof.Rows L2 PpSet

/-- a whole number or a truth value, told by a number -/
def isM : Int → Value → Bool
  | k, .int i _ => decide (i = k)
  | k, .bool b => decide (b2 b = k)
  | _, _ => false
theorem isM_cases {k : Int} {v : Value} (h : isM k v = true) : (∃ t, v = .int k t) ∨ ∃ b, v = .bool b ∧ b2 b = k := by
  cases v with
  | int i t =>
    have e : i = k := by simpa [isM] using h
    subst e
    exact .inl ⟨t, rfl⟩
  | bool b =>
    have e : b2 b = k := by simpa [isM] using h
    exact .inr ⟨b, rfl, e⟩
  | _ => exact absurd h Bool.false_ne_true
theorem b2_eq (b : Bool) : b2 b = if b = true then 1 else 0 := rfl
def mixK (P : Program) (w : World) : PySem.KeyKind P w Int where
  is := isM
  hash := hashInt
  inj := fun v a b ha hb => by
    cases v <;> simp [isM] at ha hb <;> exact ha.symm.trans hb
  byValue := fun k v h => by
    rcases isM_cases h with ⟨t, rfl⟩ | ⟨b, rfl, _⟩ <;> rfl
  pyHash := fun hv h => by
    rcases isM_cases hv with ⟨t, rfl⟩ | ⟨b, rfl, e⟩
    · exact wpAny_pyHash_int h
    · subst e
      exact pyHash_bool h
  eqBool := fun {A E s a b u v Q} hu hv h => by
    rcases isM_cases hu with ⟨t, rfl⟩ | ⟨c, rfl, e⟩ <;> rcases isM_cases hv with ⟨t', rfl⟩ | ⟨d, rfl, e'⟩
    · refine wpAny_eqBool_int ?_
      have z : (a == b) = decide (a = b) := by rw [Bool.eq_iff_iff]; simp
      rw [z]
      exact h
    · subst e'
      refine SeqAt.EqAt.int_bool a t d _ _ _ _ ?_
      have z : (a == (if d = true then 1 else 0)) = decide (a = b2 d) := by rw [b2_eq, Bool.eq_iff_iff]; simp
      rw [z]
      exact h
    · subst e
      refine SeqAt.EqAt.bool_int c b t' _ _ _ _ ?_
      have z : ((if c = true then (1 : Int) else 0) == b) = decide (b2 c = b) := by rw [b2_eq, Bool.eq_iff_iff]; simp
      rw [z]
      exact h
    · subst e e'
      refine SeqAt.EqAt.bool_bool c d _ _ _ _ ?_
      have z : (c == d) = decide (b2 c = b2 d) := by cases c <;> cases d <;> rfl
      rw [z]
      exact h
  «strs» := fun k x t v h => absurd h Bool.false_ne_true

abbrev IsX (P : Program) (w : World) (h : Heap) (k : List Int) (a : Addr) : Prop := IsTupleKey (mixK P w) h k a
abbrev xhash (P : Program) (w : World) (k : List Int) : Int := tupleKeyHash (mixK P w) k
section
variable {P : Program} {w : World} {A : Around} {E : Value → Shared → Prop} {s : Shared}
/-- neither asks for anything of a class, nor hides -/
def Flat (v : Value) : Prop := (∀ n, ofAClassStatement n v = pure false) ∧ ∀ n, hashByValue n v = pure true
theorem flat_is {k : Int} {v : Value} (h : isM k v = true) : Flat v := by
  rcases isM_cases h with ⟨t, rfl⟩ | ⟨b, rfl, _⟩
  · exact ⟨fun n => by cases n <;> rfl, fun n => by cases n <;> rfl⟩
  · exact ⟨fun n => by cases n <;> rfl, fun n => by cases n <;> rfl⟩
theorem flat_all : ∀ {ks : List Int} {vs : List Value}, ItemsAre (mixK P w) ks vs → ∀ v ∈ vs, Flat v
  | _, _, .nil => fun _ z => nomatch z
  | _, _, .cons h t => fun v hv => by
    rcases List.mem_cons.mp hv with e | z
    · rw [e]
      exact flat_is h
    · exact flat_all t v z
theorem classX {k : List Int} {b : Addr} {Q : Bool → Shared → Prop} (x : IsX P w s.heap k b) (q : Q false s) : wpAny (model P w) A (ofAClassStatement 8 (.ref b)) Q E s := by
  have ty := x.typeIs
  obtain ⟨o, its, n, e1, _, e2, al⟩ := x
  unfold ofAClassStatement
  refine wpAny_bind (wpAny_typeOf ty ?_)
  dsimp only
  have tt : (("tuple" : String) == "tuple") = true := by decide
  simp only [tt, if_true, Bool.not_true, Bool.false_eq_true, if_false]
  try refine wpAny_bind (wpAny_pure ?_)
  try simp only [Bool.not_true, Bool.false_eq_true, if_false]
  refine wpAny_bind (wpAny_seqItems e1 e2 ?_)
  dsimp only
  refine wpAny_bind ?_
  rw [← Array.forIn_toList]
  refine wpAny_forIn_list _ (fun todo r s1 => (r.1 = none ∧ s1 = s) ∧ ∀ v ∈ todo, Flat v) _ ?_ ?_ _ _ ⟨⟨rfl, rfl⟩, flat_all al⟩
  · rintro v todo r s1 ⟨⟨_, rfl⟩, fl⟩
    rw [(fl v List.mem_cons_self).1]
    refine wpAny_bind (wpAny_pure ?_)
    simp only [Bool.false_eq_true, if_false]
    exact wpAny_pure ⟨⟨rfl, rfl⟩, fun z hz => fl z (List.mem_cons_of_mem _ hz)⟩
  · rintro ⟨r1, r2⟩ s1 ⟨⟨e, rfl⟩, _⟩
    simp only at e
    subst e
    exact wpAny_pure q
theorem valueX {k : List Int} {b : Addr} {Q : Bool → Shared → Prop} (x : IsX P w s.heap k b) (q : Q true s) : wpAny (model P w) A (hashByValue 8 (.ref b)) Q E s := by
  have ty := x.typeIs
  obtain ⟨o, its, n, e1, _, e2, al⟩ := x
  unfold hashByValue
  refine wpAny_bind (wpAny_specialOf ty F.slot_tuple_hash.lookup ?_)
  refine wpAny_bind (wpAny_seqItems e1 e2 ?_)
  refine wpAny_bind ?_
  show wpAny _ _ (forIn its _ _) _ _ _
  rw [← Array.forIn_toList]
  refine wpAny_forIn_list _ (fun todo r s1 => (r.1 = none ∧ s1 = s) ∧ ∀ v ∈ todo, Flat v) _ ?_ ?_ _ _ ⟨⟨rfl, rfl⟩, flat_all al⟩
  · rintro v todo r s1 ⟨⟨_, rfl⟩, fl⟩
    rw [(fl v List.mem_cons_self).2]
    refine wpAny_bind (wpAny_pure ?_)
    simp only [Bool.not_true, Bool.false_eq_true, if_false]
    exact wpAny_pure ⟨⟨rfl, rfl⟩, fun z hz => fl z (List.mem_cons_of_mem _ hz)⟩
  · rintro ⟨r1, r2⟩ s1 ⟨⟨e, rfl⟩, _⟩
    simp only at e
    subst e
    exact wpAny_pure q
theorem quietX {k : List Int} {b : Addr} {Q : Bool → Shared → Prop} (x : IsX P w s.heap k b) {ys : List Value} (hy : ∀ y ∈ ys, ∃ c k', y = Value.ref c ∧ IsX P w s.heap k' c) (q : Q false s) :
    wpAny (model P w) A (searchCouldBeSeen (.ref b) ys) Q E s := by
  unfold searchCouldBeSeen
  refine wpAny_bind ?_
  refine wpAny_forIn_list _ (fun todo r s1 => (r.1 = none ∧ s1 = s) ∧ ∀ y ∈ todo, ∃ c k', y = Value.ref c ∧ IsX P w s.heap k' c) _ ?_ ?_ _ _ ⟨⟨rfl, rfl⟩, hy⟩
  · rintro v todo r s1 ⟨⟨_, rfl⟩, al⟩
    obtain ⟨c, k', rfl, xc⟩ := al v List.mem_cons_self
    have al' := fun z hz => al z (List.mem_cons_of_mem _ hz)
    dsimp only
    by_cases very : (b == c || (carriedByValue (.ref b) && carriedByValue (.ref c))) = true
    · exact wp_if_pos very (wpAny_pure ⟨⟨rfl, rfl⟩, al'⟩)
    · refine wp_if_neg very ?_
      refine wpAny_bind (wpAny_eqIsQuiet_tuple x ?_)
      rw [Bool.not_true, if_neg Bool.false_ne_true]
      refine wpAny_bind (wpAny_eqIsQuiet_tuple xc ?_)
      rw [Bool.not_true, if_neg Bool.false_ne_true]
      refine wpAny_bind (classX x ?_)
      rw [if_neg Bool.false_ne_true]
      refine wpAny_bind (classX xc ?_)
      rw [if_neg Bool.false_ne_true]
      exact wpAny_pure ⟨⟨rfl, rfl⟩, al'⟩
  · rintro ⟨r1, r2⟩ s1 ⟨⟨e, rfl⟩, _⟩
    simp only at e
    subst e
    exact wpAny_pure q

/-! ### a set of such tuples -/
def entX (P : Program) (w : World) (M : List (Addr × List Int)) : List (Int × Value) := M.map fun p => (xhash P w p.2, Value.ref p.1)
def hsX (P : Program) (w : World) (M : List (Addr × List Int)) : List Int := M.map fun p => xhash P w p.2
structure TSet (P : Program) (w : World) (h : Heap) (a : Addr) (M : List (Addr × List Int)) (es : Array (Int × Value)) (ep : Nat) (t : SetTable) : Prop where
  at_ : ∃ o, h.get? a = some o ∧ o.ExactSet ∧ o.data = .set es ep t
  ent : es.toList = entX P w M
  tab : TabOk t (hsX P w M)
  key : (M.map (·.2)).Nodup
  obj : ∀ p ∈ M, IsX P w h p.2 p.1
  sound : t.plain = true ∧ (w.params.followText "set-order" = true ∨ t.led = true)
  room : M.length * 5 < t.mask * 3 ∧ M.length < 64
variable {a : Addr} {M : List (Addr × List Int)} {es : Array (Int × Value)} {ep : Nat} {t : SetTable}
theorem ent_len {es : Array (Int × Value)} (h : es.toList = entX P w M) : es.size = M.length := by
  rw [← Array.length_toList, h, entX, List.length_map]
theorem ent_at {es : Array (Int × Value)} (h : es.toList = entX P w M) {i : Nat} {p : Addr × List Int} (hp : M[i]? = some p) : es[i]? = some (xhash P w p.2, Value.ref p.1) := by
  rw [← Array.getElem?_toList, h, entX, List.getElem?_map, hp]
  rfl
theorem fits_of {t : SetTable} {n : Nat} (h1 : t.place.size = n) (h2 : t.dummies = #[]) (h3 : n ≤ t.mask) : t.fits n = true := by
  unfold SetTable.fits SetTable.fill
  rw [h2, h1, Bool.and_eq_true, beq_iff_eq, decide_eq_true_eq]
  exact ⟨rfl, h3⟩
theorem TSet.place (R : TSet P w s.heap a M es ep t) : t.place.size = M.length := by
  have := R.tab.sz
  unfold hsX at this
  rw [List.length_map] at this
  exact this
theorem TSet.fits (R : TSet P w s.heap a M es ep t) : t.fits es.size = true := by
  rw [ent_len R.ent]
  exact fits_of R.place R.tab.dm (by have := R.room.1; omega)
/-- the c-th place of a search -/
abbrev pr (t : SetTable) (h : Int) (c : Nat) : SetTable.Probe := nth t.mask (runAt t.mask (SetTable.bits h % (t.mask + 1)) (SetTable.bits h)) c
theorem pr_add (t : SetTable) (h : Int) (c q : Nat) : nth t.mask (pr t h c) q = pr t h (c + q) := (nth_add t.mask c _ q).symm
theorem pr_j (t : SetTable) (h : Int) (c : Nat) : (pr t h c).j = way t.mask h c := rfl
theorem adv_dummy (m : Nat) (p : SetTable.Probe) (h : p.dummy = none) : (adv m p).dummy = none := by
  unfold adv
  split <;> exact h
theorem nth_dummy (m : Nat) : ∀ (n : Nat) (p : SetTable.Probe), p.dummy = none → (nth m p n).dummy = none
  | 0, _, h => h
  | n + 1, p, h => nth_dummy m n (adv m p) (adv_dummy m p h)
theorem searchX (R : TSet P w s.heap a M es ep t) {x : Addr} {k : List Int} {H : Int} (eH : H = xhash P w k) (hx : IsX P w s.heap k x) (hu : A.units < cLine) {K : Nat} (kf : K < 10 * SetTable.turns t.mask) (free : way t.mask H K ∉ t.place.toList) (full : ∀ c, c < K → way t.mask H c ∈ t.place.toList)
    {Q : SetFound → Shared → Prop} (yes : k ∈ M.map (·.2) → Q (.there none) s) (no : k ∉ M.map (·.2) → Q (.free (way t.mask H K) false) s) :
    ∀ (f c : Nat) (stand : Option SetTable.Probe), stand.getD (t.probeStart H) = pr t H c → c ≤ K → K < c + f → (∀ (i : Nat) p, M[i]? = some p → p.2 = k → ∃ d, c ≤ d ∧ d < K ∧ t.place.toList[i]? = some (way t.mask H d)) →
      wpAny (model P w) A (setSearchFrom a (.ref x) H true f stand) Q E s := by
  obtain ⟨o, oa, oe, od⟩ := R.at_
  intro f
  induction f with
  | zero =>
    intro c _ _ h1 h2
    omega
  | succ f ih =>
    intro c stand st cK cf left
    rw [setSearchFrom_succ]
    refine wpAny_bind (wpAny_setState_of oa od R.fits ?_)
    dsimp only
    have odd : ¬ t.gaveWay = true := by
      unfold SetTable.gaveWay
      rw [mask_odd R.tab.mok]
      decide
    refine wp_if_neg odd ?_
    try refine wpAny_bind (wpAny_pure ?_)
    have hAt : ∀ (i : Nat) p, M[i]? = some p → (es[i]?.map (·.1)).getD 0 = xhash P w p.2 := fun i p hp => by
      rw [ent_at R.ent hp]
      rfl
    have cand := go_spec t R.tab.ris R.tab.dm (fun i => (es[i]?.map (·.1)).getD 0) H (10 * SetTable.turns t.mask) (K - c) (pr t H c) (nth_dummy _ _ _ rfl) (by omega) (fun q hq => by
      rw [pr_add, pr_j]
      exact full _ (by omega)) (by
      rw [pr_add, pr_j, show c + (K - c) = K by omega]
      exact free)
    rw [st]
    have goes : t.probe (fun i => (es[i]?.map (·.1)).getD 0) H (pr t H c) = SetTable.probe.go t (fun i => (es[i]?.map (·.1)).getD 0) H (10 * SetTable.turns t.mask) (pr t H c) := rfl
    rw [goes]
    rcases cand with ⟨q, i, qK, pi, _, first_, e⟩ | ⟨none_, e⟩
    · rw [e]
      dsimp only
      rw [pr_add, pr_j] at pi ⊢
      rw [pr_add]
      have il : i < M.length := by
        have := (List.getElem?_eq_some_iff.mp pi).1
        rw [Array.length_toList, R.place] at this
        exact this
      obtain ⟨p, ep_⟩ : ∃ p, M[i]? = some p := ⟨M[i], List.getElem?_eq_getElem il⟩
      have pm := List.mem_of_getElem? ep_
      have live : t.slot (way t.mask H (c + q)) = .live i := slot_live R.tab.ris pi
      have go : wpAny (model P w) A (searchRest a (.ref x) H true f es t (way t.mask H (c + q)) i (pr t H (c + (q + 1)))) Q E s := by
        unfold searchRest
        rw [ent_at R.ent ep_]
        dsimp only
        refine wpAny_bind (wpAny_holding (wpAny_eqBool_tuple hu (R.obj p pm) hx (wpAny_bind (wpAny_setState_of oa od R.fits ?_))))
        dsimp only
        by_cases same : p.2 = k
        · refine wp_if_pos (by rw [decide_eq_true same]; rfl) (wpAny_pure (yes (List.mem_map.mpr ⟨p, pm, same⟩)))
        · refine wp_if_neg (by rw [decide_eq_false same]; decide) ?_
          try refine wpAny_bind (wpAny_pure ?_)
          rw [sameMem]
          dsimp only
          simp only [if_true, live, ent_at R.ent ep_]
          refine wpAny_bind (wpAny_isSame_ref_self (wpAny_bind (wpAny_pure ?_)))
          simp only [if_true]
          refine wp_if_neg (by rw [decide_eq_false same]; decide) (ih (c + (q + 1)) _ rfl (by omega) (by omega) fun i' p' hp' hk' => ?_)
          obtain ⟨d, d1, d2, d3⟩ := left i' p' hp' hk'
          refine ⟨d, ?_, d2, d3⟩
          have nlt : ¬ d < c + q := fun z => by
            refine first_ (d - c) i' (by omega) ?_ ?_
            · rw [pr_add, pr_j, show c + (d - c) = d by omega]
              exact d3
            · rw [hAt i' p' hp', hk', eH]
          have neq : d ≠ c + q := fun z => by
            rw [z] at d3
            have := slot_live R.tab.ris d3
            rw [live] at this
            injection this with e'
            rw [← e', ep_] at hp'
            exact same (by rw [Option.some.inj hp']; exact hk')
          omega
      by_cases ld : t.led = true
      · refine wp_if_neg (by rw [ld]; decide) ?_
        try refine wpAny_bind (wpAny_pure ?_)
        exact go
      · refine wp_if_pos (by rw [Bool.not_eq_true] at ld; rw [ld]; rfl) ?_
        refine wpAny_bind (quietX hx (fun y hy => ?_) ?_)
        · obtain ⟨z, hz, ez⟩ := List.mem_map.mp hy
          have z1 : z ∈ es.toList := by
            have : z ∈ es ∧ z.1 = H := by simpa using hz
            simpa using this.1
          rw [R.ent] at z1
          obtain ⟨p', hp', e'⟩ := List.mem_map.mp z1
          exact ⟨p'.1, p'.2, by rw [← ez, ← e'], R.obj p' hp'⟩
        · refine wp_if_neg Bool.false_ne_true ?_
          try refine wpAny_bind (wpAny_pure ?_)
          exact go
    · rw [e]
      dsimp only
      rw [pr_add, pr_j, show c + (K - c) = K by omega]
      refine wpAny_pure (no fun hm => ?_)
      obtain ⟨p', hp', hk'⟩ := List.mem_map.mp hm
      obtain ⟨i', hi'⟩ := List.mem_iff_getElem?.mp hp'
      obtain ⟨d, d1, d2, d3⟩ := left i' p' hi' hk'
      refine none_ (d - c) i' (by omega) ?_ ?_
      · rw [pr_add, pr_j, show c + (d - c) = d by omega]
        exact d3
      · rw [hAt i' p' hi', hk', eH]
theorem findX (R : TSet P w s.heap a M es ep t) {x : Addr} {k : List Int} (hx : IsX P w s.heap k x) (hu : A.units < cLine) {Q : SetFound → Shared → Prop} (yes : k ∈ M.map (·.2) → Q (.there none) s)
    (no : ∀ K, k ∉ M.map (·.2) → way t.mask (xhash P w k) K ∉ t.place.toList → (∀ c, c < K → way t.mask (xhash P w k) c ∈ t.place.toList) → Q (.free (way t.mask (xhash P w k) K) false) s) :
    wpAny (model P w) A (setSearch a (.ref x) (xhash P w k) true) Q E s := by
  have lm : (hsX P w M).length = M.length := List.length_map _
  obtain ⟨K, kf, free, full⟩ := R.tab.first (by rw [lm]; have := R.room.1; omega) (xhash P w k)
  have small : 10 * SetTable.turns t.mask ≤ 1420 := by
    unfold SetTable.turns
    rcases R.tab.mok with e | e | e <;> omega
  refine searchX R rfl hx hu kf free full yes (fun z => no K z free full) 100000 0 none rfl (Nat.zero_le _) (by omega) fun i p hp hk => ?_
  have e : (hsX P w M)[i]? = some (xhash P w k) := by
    unfold hsX
    rw [List.getElem?_map, hp, ← hk]
    rfl
  have il : i < t.place.toList.length := by
    rw [Array.length_toList, R.place]
    exact (List.getElem?_eq_some_iff.mp hp).1
  obtain ⟨d, d1, d2⟩ := R.tab.before free e (List.getElem?_eq_getElem il)
  exact ⟨d, Nat.zero_le _, d1, by rw [List.getElem?_eq_getElem il, d2]⟩
end
end VS

set_option Elab.async false
set_option linter.all false
set_option maxRecDepth 100000
set_option maxHeartbeats 4000000
/-! VS, part 2: a tuple put into a set; set(xs); sorted(set). -/
namespace VS
open PySem PySem.Spec PyProof.Rows L2 PpSet
section
variable {P : Program} {w : World} {A : Around} {E : Value → Shared → Prop} {s : Shared}
variable {a : Addr} {M : List (Addr × List Int)} {es : Array (Int × Value)} {ep : Nat} {t : SetTable}
theorem isX_but {h h' : Heap} {k : List Int} {b : Addr} {o : Obj} (x : IsX P w h k b) (oa : h.get? a = some o) (od : o.data = .set es ep t) (sb : Heap.SameBut a h h') : IsX P w h' k b := by
  obtain ⟨u, its, n, e1, e2, e3, e4⟩ := x
  refine ⟨u, its, n, (sb.2 b fun z => ?_).trans e1, e2, e3, e4⟩
  rw [z, oa] at e1
  cases e1
  rw [od] at e3
  cases e3
theorem pick_all {α : Type} (M : List α) : (List.range M.length).filterMap (fun i => M[i]?) = M := by
  have e : (List.range M.length).map (fun i => M[i]?) = M.map some := by
    refine List.ext_getElem? fun i => ?_
    rw [List.getElem?_map, List.getElem?_map]
    by_cases h : i < M.length
    · rw [List.getElem?_range h, List.getElem?_eq_getElem h]
      exact congrArg some (List.getElem?_eq_getElem h)
    · rw [List.getElem?_eq_none (by rw [List.length_range]; omega), List.getElem?_eq_none (by omega)]
      rfl
  have e2 := congrArg (List.filterMap id) e
  rw [List.filterMap_map, List.filterMap_map] at e2
  have e3 : List.filterMap (id ∘ some) M = M := List.filterMap_some
  rw [e3] at e2
  exact e2
theorem pick_perm {α : Type} {M : List α} {l : List Nat} (h : l.Perm (List.range M.length)) : (l.filterMap fun i => M[i]?).Perm M := by
  have := h.filterMap fun i => M[i]?
  rw [pick_all] at this
  exact this
theorem pick_ent (h : es.toList = entX P w M) (l : List Nat) : l.filterMap (fun i => es[i]?) = entX P w (l.filterMap fun i => M[i]?) := by
  unfold entX
  rw [List.map_filterMap]
  refine congrArg (fun f => List.filterMap f l) (funext fun i => ?_)
  rw [← Array.getElem?_toList, h, entX, List.getElem?_map]
theorem pick_hs (h : es.toList = entX P w M) : ∀ l : List Nat, (∀ i ∈ l, i < M.length) → hsX P w (l.filterMap fun i => M[i]?) = l.map fun i => (es.map (·.1)).getD i 0
  | [], _ => rfl
  | i :: l, al => by
    have li := al i List.mem_cons_self
    have ih := pick_hs h l fun j hj => al j (List.mem_cons_of_mem _ hj)
    rw [List.filterMap_cons_some (List.getElem?_eq_getElem li), List.map_cons, ← ih]
    unfold hsX
    rw [List.map_cons]
    congr 1
    rw [Array.getD_eq_getD_getElem?, Array.getElem?_map, ent_at h (List.getElem?_eq_getElem li)]
    rfl
theorem relayX {o : Obj} (oa : s.heap.get? a = some o) (oe : o.ExactSet) (od : o.data = .set es ep t) (he : es.toList = entX P w M) (pl : t.place.size = M.length) (dm : t.dummies = #[]) (fl : M.length ≤ t.mask) (key : (M.map (·.2)).Nodup) (obj : ∀ p ∈ M, IsX P w s.heap p.2 p.1)
    (sound : t.plain = true ∧ (w.params.followText "set-order" = true ∨ t.led = true)) {wanted m : Nat} (wm : SetTable.sizeAbove wanted - 1 = m) (mk : MaskOk m) (w128 : SetTable.sizeAbove wanted ≤ 128) (room : M.length * 5 < m * 3 ∧ M.length < 64) {Q : Unit → Shared → Prop}
    (q : ∀ h' M' es' ep' t', Heap.SameBut a s.heap h' → TSet P w h' a M' es' ep' t' → M'.Perm M → Q () { s with heap := h' }) : wpAny (model P w) A (setRelay a wanted) Q E s := by
  have z := ent_len he
  obtain ⟨t', ord, e, pm, tb, e1, e2, e3, e4⟩ := relaid_ok t (hs := es.map (·.1)) (wanted := wanted) wm mk (by rw [Array.size_map, z]; omega)
  rw [Array.size_map, z] at pm
  have pick := pick_perm pm
  rw [← pick_hs he ord.toList fun i hi => List.mem_range.mp (pm.mem_iff.mp hi)] at tb
  have ent' : (ord.filterMap (es[·]?)).toList = entX P w (ord.toList.filterMap fun i => M[i]?) := by
    rw [Array.toList_filterMap]
    exact pick_ent he _
  have z' := ent_len ent'
  rw [pick.length_eq] at z'
  rw [setRelay_eq]
  refine wpAny_bind (wpAny_setState_of oa od (by rw [z]; exact fits_of pl dm fl) ?_)
  dsimp only
  refine wp_if_neg (by rw [sizeLine_eq]; omega) ?_
  try refine wpAny_bind (wpAny_pure ?_)
  rw [e]
  dsimp only
  refine wpAny_bind ?_
  refine wp_if_neg (by rw [z', z]; simp) ?_
  try refine wpAny_bind (wpAny_pure ?_)
  refine wpAny_pure ?_
  dsimp only
  refine wpAny_storeSet_of oa od ?_ (by rw [z', sizeLine_eq]; omega)
  have sb : Heap.SameBut a s.heap (s.heap.update a (Obj.putSet (ord.filterMap (es[·]?)) t')) := Heap.SameBut.update ..
  refine q _ _ _ (ep + 1) t' sb ⟨⟨_, store_at oa od, ⟨oe.1, oe.2.1, oe.2.2⟩, rfl⟩, ent', tb, (pick.map (·.2)).nodup_iff.mpr key, fun p hp => isX_but (obj p (pick.mem_iff.mp hp)) oa od sb, by rw [e2, e3]; exact sound, by rw [pick.length_eq, e1]; exact room⟩ pick
theorem addX (R : TSet P w s.heap a M es ep t) {x : Addr} {k : List Int} (hx : IsX P w s.heap k x) (hu : A.units < cLine) (few : M.length + 1 < 64) {Q : Bool → Shared → Prop}
    (q : ∀ b h' M' es' ep' t', Heap.SameBut a s.heap h' → TSet P w h' a M' es' ep' t' → (k ∈ M.map (·.2) → M' = M) → (k ∉ M.map (·.2) → M'.Perm ((x, k) :: M)) → Q b { s with heap := h' }) :
    wpAny (model P w) A (setAddHashed a (.ref x) (xhash P w k)) Q E s := by
  obtain ⟨o, oa, oe, od⟩ := R.at_
  have room := R.room.1
  unfold setAddHashed
  refine wpAny_holding ?_
  have e5 : (100000 : Nat) = 99999 + 1 := rfl
  rw [e5, setAddHashedIn_succ]
  refine wpAny_bind (wpAny_setState_of oa od R.fits ?_)
  dsimp only
  refine wp_if_neg (by simp [byScan, Value.scannable]) ?_
  try refine wpAny_bind (wpAny_pure ?_)
  refine wpAny_bind (findX R hx hu (fun hm => ?_) fun K hm free full => ?_)
  · dsimp only
    exact wpAny_pure (q false s.heap M es ep t (Heap.SameBut.refl a s.heap) R (fun _ => rfl) fun z => absurd hm z)
  · dsimp only
    refine wpAny_bind (wpAny_setState_of oa od R.fits ?_)
    dsimp only
    obtain ⟨e1, _, tb, em, el, epl, _, _, ef⟩ := R.tab.put free full
    have lh : (hsX P w M).length = M.length := List.length_map _
    rw [lh] at ef
    revert e1 tb em el epl ef
    generalize t.put (way t.mask (xhash P w k) K) = two
    obtain ⟨t1, at1⟩ := two
    generalize SetTable.below t.place (way t.mask (xhash P w k) K) = at2
    intro e1 tb em el epl ef
    have e1 : at1 = at2 := e1
    have tb : TabOk t1 ((hsX P w M).take at2 ++ xhash P w k :: (hsX P w M).drop at2) := tb
    have em : t1.mask = t.mask := em
    have el : t1.led = t.led := el
    have epl : t1.plain = t.plain := epl
    have ef : t1.fill = M.length + 1 := ef
    subst e1
    dsimp only
    have pl1 : t1.plain = true := by rw [epl]; exact R.sound.1
    first
      | (refine wpAny_bind ?_; refine wp_if_pos pl1 ?_; refine valueX hx ?_)
      | refine wp_if_pos pl1 (wpAny_bind (valueX hx ?_))
    simp only [if_true]
    have ent1 : (SetTable.insertAt es at1 (xhash P w k, Value.ref x)).toList = entX P w (M.take at1 ++ (x, k) :: M.drop at1) := by
      rw [SetTable.toList_insertAt, R.ent]
      unfold entX
      rw [List.map_append, List.map_cons, List.map_take, List.map_drop]
    have hs1 : hsX P w (M.take at1 ++ (x, k) :: M.drop at1) = (hsX P w M).take at1 ++ xhash P w k :: (hsX P w M).drop at1 := by
      unfold hsX
      rw [List.map_append, List.map_cons, List.map_take, List.map_drop]
    rw [← hs1] at tb
    have pm := put_perm M at1 (x, k)
    revert ent1 tb pm
    generalize SetTable.insertAt es at1 (xhash P w k, Value.ref x) = es1
    generalize M.take at1 ++ (x, k) :: M.drop at1 = M1
    intro tb ent1 pm
    have l1 : M1.length = M.length + 1 := pm.length_eq
    have z1 := ent_len ent1
    rw [l1] at z1
    refine wpAny_bind (wpAny_storeSet_of oa od ?_ (by rw [z1, sizeLine_eq]; omega))
    have sb : Heap.SameBut a s.heap (s.heap.update a (Obj.putSet es1 t1)) := Heap.SameBut.update ..
    have oa1 := store_at (es' := es1) (t' := t1) oa od
    revert sb oa1
    generalize s.heap.update a (Obj.putSet es1 t1) = h1
    intro sb oa1
    have key1 : (M1.map (·.2)).Nodup := (pm.map (·.2)).nodup_iff.mpr (List.nodup_cons.mpr ⟨hm, R.key⟩)
    have obj1 : ∀ p ∈ M1, IsX P w h1 p.2 p.1 := fun p hp => by
      rcases List.mem_cons.mp (pm.mem_iff.mp hp) with z | z
      · rw [z]
        exact isX_but hx oa od sb
      · exact isX_but (R.obj p z) oa od sb
    have sound1 : t1.plain = true ∧ (w.params.followText "set-order" = true ∨ t1.led = true) := ⟨pl1, by rw [el]; exact R.sound.2⟩
    have pl1' : t1.place.size = M1.length := by
      have := tb.sz
      unfold hsX at this
      rw [List.length_map] at this
      exact this
    by_cases tf : t1.tooFull = true
    · first
        | (refine wpAny_bind ?_; refine wp_if_pos (by simp [tf]) ?_)
        | (refine wp_if_pos (by simp [tf]) ?_; refine wpAny_bind ?_)
      have big : (M.length + 1) * 5 ≥ t1.mask * 3 := by
        have := tf
        unfold SetTable.tooFull at this
        rw [decide_eq_true_eq, ef] at this
        exact this
      rw [em] at big
      rw [ent_len R.ent]
      have more : ∀ m, SetTable.sizeAbove (SetTable.grown (M.length + 1)) - 1 = m → MaskOk m → SetTable.sizeAbove (SetTable.grown (M.length + 1)) ≤ 128 → (M.length + 1) * 5 < m * 3 → M.length + 1 ≤ t.mask →
          wpAny (model P w) A (setRelay a (SetTable.grown (M.length + 1))) (fun _ s1 => wpAny (model P w) A (pure true) Q E s1) E { s with heap := h1 } := fun m a1 a2 a3 a4 a5 =>
        relayX (s := { s with heap := h1 }) oa1 ⟨oe.1, oe.2.1, oe.2.2⟩ rfl ent1 pl1' tb.dm (by rw [l1, em]; exact a5) key1 obj1 sound1 a1 a2 a3 (by rw [l1]; exact ⟨a4, few⟩) fun h2 M2 es2 ep2 t2 sb2 R2 pm2 =>
          wpAny_pure (q true h2 M2 es2 ep2 t2 (sb.trans sb2) R2 (fun z => absurd z hm) fun _ => pm2.trans pm)
      rcases R.tab.mok with e | e | e
      · have : M.length = 4 := by rw [e] at big room; omega
        exact more 31 (by rw [this, size_20]) (.inr (.inl rfl)) (by rw [this, size_20]; decide) (by omega) (by omega)
      · have : M.length = 18 := by rw [e] at big room; omega
        exact more 127 (by rw [this, size_76]) (.inr (.inr rfl)) (by rw [this, size_76]; decide) (by omega) (by omega)
      · rw [e] at big
        omega
    · first
        | refine wp_if_neg (by simp [tf]) ?_
        | (refine wpAny_bind ?_; refine wp_if_neg (by simp [tf]) ?_; refine wpAny_pure ?_)
      refine wpAny_pure (q true h1 M1 es1 (ep + 1) t1 sb ⟨⟨_, oa1, ⟨oe.1, oe.2.1, oe.2.2⟩, rfl⟩, ent1, tb, key1, obj1, sound1, ?_, by rw [l1]; exact few⟩ (fun z => absurd z hm) fun _ => pm)
      have := tf
      unfold SetTable.tooFull at this
      rw [decide_eq_true_eq, ef] at this
      rw [l1]
      omega
end
end VS

set_option Elab.async false
set_option linter.all false
set_option maxRecDepth 100000
set_option maxHeartbeats 4000000
/-! VS, part 3: set(xs) of a list of such tuples; sorted of the set. -/
namespace VS
open PySem PySem.Spec PyProof.Rows L2 PpSet
section
variable {P : Program} {w : World} {A : Around} {E : Value → Shared → Prop} {s : Shared}
abbrev Old (h h' : Heap) : Prop := ∀ b o, h.get? b = some o → h'.get? b = some o
theorem isX_old {h h' : Heap} {k : List Int} {b : Addr} (k1 : Old h h') (x : IsX P w h k b) : IsX P w h' k b := by
  obtain ⟨u, its, n, e, r⟩ := x
  exact ⟨u, its, n, k1 b u e, r⟩
theorem TSet.old {h h' : Heap} {a : Addr} {M : List (Addr × List Int)} {es : Array (Int × Value)} {ep : Nat} {t : SetTable} (ka : ∀ o, h.get? a = some o → h'.get? a = some o) (ob : ∀ p ∈ M, IsX P w h' p.2 p.1) (R : TSet P w h a M es ep t) : TSet P w h' a M es ep t := by
  obtain ⟨o, oa, r⟩ := R.at_
  exact ⟨⟨o, ka o oa, r⟩, R.ent, R.tab, R.key, ob, R.sound, R.room⟩
/-- a new set's object -/
def newO (w : World) : Obj := { cls := .type "set", dict := none, data := .set #[] 0 (.fresh 0 0 (!w.params.followText "set-order")) }
theorem tset_new {h : Heap} {a : Addr} (oa : h.get? a = some (newO w)) : TSet P w h a [] #[] 0 (.fresh 0 0 (!w.params.followText "set-order")) := by
  refine ⟨⟨_, oa, ⟨rfl, rfl, rfl⟩, rfl⟩, rfl, ⟨List.Pairwise.nil, rfl, rfl, .inl rfl, fun _ z => (by cases z), fun i h j z => (by simp [hsX] at z)⟩, List.nodup_nil, fun _ z => (by cases z), ⟨rfl, ?_⟩, (by decide : 0 * 5 < 7 * 3), (by decide : 0 < 64)⟩
  show _ ∨ (!w.params.followText "set-order") = true
  cases w.params.followText "set-order"
  · exact .inr rfl
  · exact .inl rfl
theorem fillX {I : Addr} {fp wr : List Addr} {G : Array GenState → Array GenState → Prop} {n : Nat} {Pv : Nat → Value → Prop} {Z : Nat → Shared → Prop} {R : Result → Shared → Prop} (W : WalksS P w A.in1 I fp wr G n Pv Z) {S : Addr} (nf : S ∉ fp) {ks : List (Addr × List Int)} (en : n = ks.length) (few : ks.length < 64)
    (val : ∀ i v, Pv i v → ∃ p, ks[i]? = some p ∧ v = .ref p.1) {h0 : Heap} (ob : ∀ p ∈ ks, IsX P w h0 p.2 p.1) (nS : h0.get? S = none) (nw : ∀ b ∈ wr, h0.get? b = none) (hu : A.in1.units < cLine) :
    ∀ (d i : Nat) (s : Shared), i + d = n → Z i s → Old h0 s.heap → (∃ M es ep t, TSet P w s.heap S M es ep t ∧ Got ks i M) →
      (∀ s' M es ep t, Moved (S :: wr) G s s' → TSet P w s'.heap S M es ep t → Got ks n M → Old h0 s'.heap → R (.ok (.ret .none)) s') → codeAny (model P w) A (.builtin "set.update.loop" ⟨[.ref S, .ref I], []⟩) R s := by
  have nw2 : S ∉ wr := fun z => nf (W.sub _ z)
  have up : ∀ b ∈ wr, b ∈ S :: wr := fun b hb => List.mem_cons_of_mem _ hb
  have old2 : ∀ {s s' : Shared}, Moved wr G s s' → Old h0 s.heap → Old h0 s'.heap := fun mv k b o e => mv.heap b o (fun hb => by
    rw [nw b hb] at e
    cases e) (k b o e)
  intro d
  induction d with
  | zero =>
    intro i s hi z k0 ⟨M, es, ep, t, T, g⟩ q
    have hi : i = n := hi
    subst hi
    refine codeAny_builtin F.entry_set_update_loop ?_
    rw [Around.under_plainId F.plain_set_update_loop _]
    refine wpAny_bind (m := pyNext (.ref I)) (W.done s _ _ z fun s' mv => ?_)
    have k1 := old2 mv k0
    exact wpAny_pure (q s' M es ep t (mv.mono up) (T.old (fun o e => mv.heap S o nw2 e) fun p hp => isX_old k1 (ob p (List.mem_of_mem_take (g.sub p hp)))) g k1)
  | succ d ih =>
    intro i s hi z k0 ⟨M, es, ep, t, T, g⟩ q
    refine codeAny_builtin F.entry_set_update_loop ?_
    rw [Around.under_plainId F.plain_set_update_loop _]
    refine wpAny_bind (m := pyNext (.ref I)) (W.item i s _ _ (by omega) z fun v s' hv z' mv => ?_)
    obtain ⟨p, ep_, rfl⟩ := val i v hv
    have k1 := old2 mv k0
    have T1 : TSet P w s'.heap S M es ep t := T.old (fun o e => mv.heap S o nw2 e) fun p hp => isX_old k1 (ob p (List.mem_of_mem_take (g.sub p hp)))
    have xp : IsX P w s'.heap p.2 p.1 := isX_old k1 (ob p (List.mem_of_getElem? ep_))
    show wpAny _ A.in1 (holding [Value.ref p.1] (setAdd S (.ref p.1)) >>= _) _ _ s'
    refine wpAny_bind (wpAny_holding ?_)
    unfold setAdd
    refine wpAny_holding ?_
    refine wpAny_bind (wpAny_pyHash_tuple hu xp ?_)
    refine addX (s := { s' with toks := s'.toks + (p.2.length + 1) }) T1 xp hu (by have := g.len; omega) fun b h' M' es' ep' t' sb T2 c1 c2 => ?_
    have g' : Got ks (i + 1) M' := by
      by_cases c : p.2 ∈ M.map (·.2)
      · rw [c1 c]
        exact g.same ep_ c
      · exact g.more ep_ (c2 c)
    have nS2 : ∀ b o, h0.get? b = some o → b ≠ S := fun b o e z => by
      rw [z, nS] at e
      cases e
    have k2 : Old h0 h' := fun b o e => (sb.2 b (nS2 b o e)).trans (k1 b o e)
    refine wpAny_pure ⟨plainId_quiet F.plain_set_update_loop _, ih (i + 1) _ (by omega) (W.frame _ s' _ _ z' (Nat.le_add_right _ _) fun b hb o e => ?_) k2 ⟨M', es', ep', t', T2, g'⟩ fun s'' M2 es2 ep2 t2 mv2 T3 g3 k3 => ?_⟩
    · have : b ≠ S := fun z => nf (z ▸ hb)
      rw [sb.2 b this]
      exact e
    · refine q s'' M2 es2 ep2 t2 (Moved.trans W.gtrans ((mv.mono up).then_heap (Nat.le_add_right _ _) fun b o hb e => ?_) mv2) T3 g3 k3
      have : b ≠ S := fun z => hb (z ▸ List.mem_cons_self)
      rw [sb.2 b this]
      exact e
theorem get_top {h : Heap} {b : Addr} (z : h.objs.size ≤ b) : h.get? b = none := by
  cases q : h.get? b with
  | none => rfl
  | some o =>
    have := Heap.lt_size q
    exact absurd this (Nat.not_lt.mpr z)
/-- set(xs) -/
theorem call_setX {l : Addr} {its : Array Value} (ks : List (Addr × List Int)) {Q : Value → Shared → Prop} (hh : A.handled = none) (il : s.heap.IsList l its) (ei : its.toList = ks.map fun p => Value.ref p.1) (ob : ∀ p ∈ ks, IsX P w s.heap p.2 p.1) (few : ks.length < 64) (hu : A.units + 3 < cLine)
    (q : ∀ (h' : Heap) (tk : Nat) M es ep t, TSet P w h' s.heap.objs.size M es ep t → Got ks ks.length M → Old s.heap h' → Q (.ref s.heap.objs.size) { s with heap := h', toks := tk }) : wpAny (model P w) A (call (.type "set") [.ref l]) Q E s := by
  have zi : its.size = ks.length := by
    rw [← Array.length_toList, ei, List.length_map]
  obtain ⟨c0, tl, hmro⟩ := F.called_set.mro
  have y1 := F.called_set.made
  have y2 := F.called_set.sub
  refine wpAny_call (codeAny_of_tree ?_)
  show wpAny _ _ (callAny (.type "set") _) _ _ _
  refine wpAny_pure ⟨Code.quiet_builtin _ (by decide +kernel), codeAny_builtin F.entry_type_call ?_⟩
  rw [Around.under_plain (weight_type_call_type "set" [.ref l] []) rfl]
  have y3 := F.called_set.notType
  have y4 := F.called_set.canCreate
  have y5 := F.typeCall_set_1 (.ref l)
  repeat (any_goals (first | assumption | wp_step))
  refine codeAny_mono (code_set_led1 (.ref l) (E := E) (Q₁ := fun o1 s1 => o1 = .ref s.heap.objs.size ∧ s1 = { s with heap := s.heap.push (newO w) }) ⟨rfl, rfl⟩) fun r s1 hr => ?_
  cases r with
  | error e => exact hr
  | ok fl =>
    cases fl with
    | ret o1 =>
      obtain ⟨rfl, rfl⟩ := hr
      have oS : (s.heap.push (newO w)).get? s.heap.objs.size = some (newO w) := Heap.get?_push_size _ rfl
      have tS : Shared.TypeIs { s with heap := s.heap.push (newO w) } (.ref s.heap.objs.size) "set" := ⟨_, oS, rfl⟩
      have y6 := F.called_set.init.lookup
      have y7 := F.called_set.init.bind (.ref s.heap.objs.size)
      repeat (any_goals (first | assumption | wp_step))
      refine codeAny_mono (codeAny_call_builtin (R := wants (fun r s2 => r = .none ∧ ∃ h' tk M es ep t, s2 = { s with heap := h', toks := tk } ∧ TSet P w h' s.heap.objs.size M es ep t ∧ Got ks ks.length M ∧ Old s.heap h') E) F.called_set.init.plain F.entry_set_init (check_set_init_1 tS ?_)) fun r2 s2 hr2 => ?_
      · obtain ⟨ol, el, cl, nl, dl⟩ := il
        obtain ⟨oc, odi, oda, osl⟩ := ol
        simp only at cl dl
        subst cl dl
        have el' : (s.heap.push (newO w)).get? l = some { cls := .type "list", dict := odi, data := .seq its nl, slots := osl } := Heap.get?_push_of_some _ el
        have y8 := F.sub_list_set
        have y9 := F.sub_list_frozenset
        have y10 : (Value.type "list" == Value.type "dict") = false := by decide
        have il' : (s.heap.push (newO w)).IsList l its := ⟨_, el', rfl, nl, rfl⟩
        unfold Builtin.«set.__init__» noKeywords Builtin.Frozenset.updateFrom
        generalize hPI : pyIter = PI
        wp_walk
        subst hPI
        refine wpAny_pyIter_list il' ?_
        refine wpAny_bind (wpAny_runValue ?_)
        have ll : l < s.heap.objs.size := Heap.lt_size el
        have hh3 : A.in1.in1.in1.handled = none := by simp [hh]
        have zp : (s.heap.push (newO w)).objs.size = s.heap.objs.size + 1 := Heap.size_push ..
        have ne1 : l ≠ (s.heap.push (newO w)).objs.size := by
          rw [zp]
          exact Nat.ne_of_lt (Nat.lt_succ_of_lt ll)
        have ne2 : s.heap.objs.size ∉ [(s.heap.push (newO w)).objs.size, l] := fun z => by
          have : s.heap.objs.size = (s.heap.push (newO w)).objs.size ∨ s.heap.objs.size = l := by simpa using z
          rw [zp] at this
          rcases this with e | e
          · exact Nat.succ_ne_self _ e.symm
          · exact Nat.ne_of_gt ll e
        have val : ∀ (i : Nat) (v : Value), its[i]? = some v → ∃ p, ks[i]? = some p ∧ v = .ref p.1 := fun i v hv => by
          have z : its.toList[i]? = some v := by
            rw [Array.getElem?_toList]
            exact hv
          rw [ei, List.getElem?_map] at z
          cases hk : ks[i]? with
          | none =>
            rw [hk] at z
            cases z
          | some p =>
            rw [hk] at z
            exact ⟨p, rfl, (Option.some.inj z).symm⟩
        refine fillX ((Walks.list hh3 _ l ne1 its).toS) ne2 zi few val ob (get_top (Nat.le_refl _)) (fun b hb => get_top (by
          rw [List.mem_singleton.mp hb, zp]
          exact Nat.le_succ _)) hu its.size 0 _ (Nat.zero_add _) ⟨⟨_, Heap.get?_push_size _ rfl, rfl, rfl⟩, il'.push _⟩ (fun b o e => Heap.get?_push_of_some _ (Heap.get?_push_of_some _ e)) ?start ?stop
        case start => exact ⟨[], #[], 0, _, tset_new (Heap.get?_push_of_some _ oS), Got.zero ks⟩
        case stop =>
          intro s' M es ep t mv T g k
          obtain ⟨h', g1, d1, tk, os1⟩ := s'
          have z1 : g1 = s.gens := mv.gens
          have z2 : d1 = s.drawn := mv.drawn
          have z3 : os1 = s.os := mv.os
          subst z1 z2 z3
          show wpAny _ _ _ _ _ _
          refine wpAny_pure ?_
          show wpAny _ _ (ret Value.none) _ _ _
          rw [zi] at g
          exact wpAny_pure ⟨rfl, h', tk, M, es, ep, t, rfl, T, g, k⟩
      · cases r2 with
        | error e => exact hr2
        | ok fl2 =>
          cases fl2 with
          | ret r =>
            obtain ⟨rfl, h', tk, M, es, ep, t, rfl, T, g, k⟩ := hr2
            repeat (any_goals (first | assumption | wp_step))
            exact q _ _ _ _ _ _ T g k
          | _ => exact hr2.elim
    | _ => exact hr.elim
/-- sorted(set), the things told as data -/
theorem call_sortX {β : Type} {enc : β → PyData} {a : Addr} {M : List (Addr × List Int)} {es : Array (Int × Value)} {ep : Nat} {t : SetTable} {Q : Value → Shared → Prop} (T : TSet P w s.heap a M es ep t) (hh : A.handled = none) (kb : Addr × List Int → β) (rd : ∀ p ∈ M, Reads s.heap (.ref p.1) (enc (kb p)) [])
    (al : ∀ b b' : β, PySem.W.alike (enc b) (enc b') = true) (tup : ∀ b, ∃ x r, enc b = .tuple (x :: r)) (dp : ∀ b, (enc b).depth ≤ 1) (hu : A.units + 66 < cLine)
    (q : ∀ s' p (out : Array Value) (c : Nat) (N : List (Addr × List Int)), Old s.heap s'.heap → s'.gens = s.gens → s'.os = s.os → s.heap.objs.size ≤ p → s'.heap.get? p = some (seqObj "list" out c) → N.Perm M → PySem.W.EachIs (fun v b => ∃ x ∈ M, v = Value.ref x.1 ∧ kb x = b) out.toList ((N.map kb).mergeSort (PySem.W.dataLe false enc)) → Q (.ref p) s') :
    wpAny (model P w) A (call (.builtin "sorted") [.ref a]) Q E s := by
  obtain ⟨o, oa, oe, od⟩ := T.at_
  refine Calls.call_function_entry kind_sorted plain_sorted entry_sorted (args_sorted1 _) ?_
  unfold Builtin.«sorted»
  refine wpAny_bind (m := checkCount "sorted" 1 1 _) (wpAny_pure ?_)
  have few := T.room.2
  refine wpAny_bind (collect_set (A := A.in1) hh ⟨o, oa, oe.1, od⟩ T.fits (by rw [ent_len T.ent]; unfold scanBound; omega) T.tab.ris T.sound.2 fun s1 vs k1 hz g1 o1 pm => ?_)
  have evs : es.toList.map (·.2) = M.map fun p => Value.ref p.1 := by
    rw [T.ent]
    unfold entX
    rw [List.map_map]
    rfl
  rw [evs] at pm
  obtain ⟨N, eN, pN⟩ : ∃ N : List (Addr × List Int), vs = N.map (fun p => Value.ref p.1) ∧ N.Perm M := by
    have key : ∀ {l l' : List Value}, l.Perm l' → ∀ L : List (Addr × List Int), l' = L.map (fun p => Value.ref p.1) → ∃ N : List (Addr × List Int), l = N.map (fun p => Value.ref p.1) ∧ N.Perm L := by
      intro l l' h
      induction h with
      | nil =>
        intro L e
        cases L with
        | nil => exact ⟨[], rfl, .nil⟩
        | cons => cases e
      | cons x _ ih =>
        intro L e
        cases L with
        | nil => cases e
        | cons y L =>
          rw [List.map_cons] at e
          injection e with e1 e2
          obtain ⟨N, a1, a2⟩ := ih L e2
          exact ⟨y :: N, by rw [List.map_cons, a1, e1], a2.cons y⟩
      | swap x y l =>
        intro L e
        match L, e with
        | [], e => cases e
        | [_], e => cases e
        | u :: v :: L, e =>
          rw [List.map_cons, List.map_cons] at e
          injection e with e1 e2
          injection e2 with e2 e3
          exact ⟨v :: u :: L, by rw [List.map_cons, List.map_cons, e1, e2, e3], List.Perm.swap u v L⟩
      | trans _ _ ih1 ih2 =>
        intro L e
        obtain ⟨N2, b1, b2⟩ := ih2 L e
        obtain ⟨N1, c1, c2⟩ := ih1 N2 b1
        exact ⟨N1, c1, c2.trans b2⟩
    exact key pm M rfl
  have lv : vs.length = M.length := by rw [eN, List.length_map, pN.length_eq]
  refine wpAny_bind (wpAny_newList ?_ (by rw [sizeLine_eq]; omega))
  have oL : (s1.heap.push (seqObj "list" vs.toArray 0)).get? s1.heap.objs.size = some (seqObj "list" vs.toArray 0) := Heap.get?_push_size _ rfl
  have k2 : Old s.heap (s1.heap.push (seqObj "list" vs.toArray 0)) := fun b u e => Heap.get?_push_of_some _ (k1 b u e)
  have rdN : ∀ p ∈ N, Reads (s1.heap.push (seqObj "list" vs.toArray 0)) (.ref p.1) (enc (kb p)) [] := fun p hp => PyProof.Rows.Reads.keeps (fun b u => k2 b u) (rd p (pN.mem_iff.mp hp))
  have each : ∀ L : List (Addr × List Int), (∀ p ∈ L, p ∈ N) → PySem.W.EachIs (fun v b => ∃ x ∈ M, v = Value.ref x.1 ∧ kb x = b) (L.map fun p => Value.ref p.1) (L.map kb) ∧ PySem.W.EachIs (fun v b => ∃ as, Reads (s1.heap.push (seqObj "list" vs.toArray 0)) v (enc b) as ∧ s1.heap.objs.size ∉ as) (L.map fun p => Value.ref p.1) (L.map kb) := by
    intro L
    induction L with
    | nil => exact fun _ => ⟨.nil, .nil⟩
    | cons p L ih =>
      intro hL
      obtain ⟨i1, i2⟩ := ih fun x hx => hL x (List.mem_cons_of_mem _ hx)
      have hp := hL p List.mem_cons_self
      exact ⟨.cons ⟨p, pN.mem_iff.mp hp, rfl, rfl⟩ i1, .cons ⟨[], rdN p hp, fun z => nomatch z⟩ i2⟩
  obtain ⟨e1, e2⟩ := each N fun _ h => h
  rw [← eN] at e1 e2
  refine wpAny_bind (wpAny_holding (PySem.W.list_sort_data (s := { s1 with heap := s1.heap.push (seqObj "list" vs.toArray 0) }) oL e1 e2 (PySem.W.AllAlike.of al) (PySem.W.Sortable.tuples tup) (by rw [List.length_map, pN.length_eq, sizeLine_eq]; omega) (fun b _ => ?_) fun out lo eo => ?_))
  · have := dp b
    show A.units + 1 + 1 + (enc b).depth < cLine
    omega
  · obtain ⟨c, hc⟩ := sortedHeap_at (vs := vs) (out := out.toArray) oL
    refine wpAny_pure ⟨_, rfl, q _ s1.heap.objs.size out.toArray c N (fun b u e => ?_) g1 o1 hz hc pN (by simpa using eo)⟩
    have lt := Heap.lt_size (k1 b u e)
    show (sortedHeap (s1.heap.push (seqObj "list" vs.toArray 0)) s1.heap.objs.size vs out.toArray).get? b = some u
    rw [sortedHeap_old (Nat.ne_of_lt lt) (by rw [size_push']; exact Nat.lt_succ_of_lt lt)]
    exact k2 b u e
end
end VS

set_option Elab.async false
set_option linter.all false
set_option maxRecDepth 100000
set_option maxHeartbeats 4000000
/-! VT: len(set(xs)), xs a list of texts. -/
namespace VS
open PySem PySem.Spec PyProof.Rows L2 PpSet
/-- each once, by the first -/
def dd (xs : List Str) : List Str := xs.foldl (fun l x => if x ∈ l then l else l ++ [x]) []
theorem dd_snoc (xs : List Str) (x : Str) : dd (xs ++ [x]) = if x ∈ dd xs then dd xs else dd xs ++ [x] := by
  unfold dd
  rw [List.foldl_append]
  rfl
theorem dd_mem (k : Str) : ∀ (n : Nat) (xs : List Str), xs.length = n → (k ∈ dd xs ↔ k ∈ xs)
  | 0, xs, h => by
    rw [List.eq_nil_of_length_eq_zero h]
    exact Iff.rfl
  | n + 1, xs, h => by
    have ne : xs ≠ [] := fun z => by
      rw [z] at h
      cases h
    obtain ⟨ys, x, rfl⟩ : ∃ ys x, xs = ys ++ [x] := ⟨xs.dropLast, xs.getLast ne, (List.dropLast_concat_getLast ne).symm⟩
    have hn : ys.length = n := by simpa using h
    have ih := dd_mem k n ys hn
    have ihx := dd_mem x n ys hn
    rw [dd_snoc, List.mem_append, List.mem_singleton]
    by_cases c : x ∈ dd ys
    · rw [if_pos c, ih]
      exact ⟨.inl, fun z => z.elim id fun z => by rw [z]; exact ihx.mp c⟩
    · rw [if_neg c, List.mem_append, List.mem_singleton, ih]
theorem dd_len : ∀ (n : Nat) (xs : List Str), xs.length = n → (dd xs).length ≤ n
  | 0, xs, h => by
    rw [List.eq_nil_of_length_eq_zero h]
    exact Nat.le_refl _
  | n + 1, xs, h => by
    have ne : xs ≠ [] := fun z => by
      rw [z] at h
      cases h
    obtain ⟨ys, x, rfl⟩ : ∃ ys x, xs = ys ++ [x] := ⟨xs.dropLast, xs.getLast ne, (List.dropLast_concat_getLast ne).symm⟩
    have hn : ys.length = n := by simpa using h
    have ih := dd_len n ys hn
    rw [dd_snoc]
    split
    · omega
    · rw [List.length_append]
      exact Nat.succ_le_succ ih
section
variable {P : Program} {w : World} {A : Around} {E : Value → Shared → Prop} {s : Shared}
abbrev SSet (P : Program) (w : World) (h : Heap) (a : Addr) (ks : List Str) : Prop := h.SetOf (strKind P w) a (fun k => decide (k ∈ ks)) (dd ks).length
theorem strs_at : ∀ {vs : List Value} {ks : List Str} {i : Nat} {v : Value}, StrsAre vs ks → vs[i]? = some v → ∃ x t, ks[i]? = some x ∧ v = .str x t
  | _, _, _, _, .nil, h => by cases h
  | _, _, 0, v, .cons x t r, h => ⟨x, t, rfl, (Option.some.inj h).symm⟩
  | _, _, i + 1, v, .cons x t r, h => strs_at (i := i) r h
theorem SSet.keep {h h' : Heap} {a : Addr} {ks : List Str} (k : ∀ o, h.get? a = some o → h'.get? a = some o) (T : SSet P w h a ks) : SSet P w h' a ks := by
  obtain ⟨o, es, ep, t, e, r⟩ := T
  exact ⟨o, es, ep, t, k o e, r⟩
theorem fillS {I : Addr} {fp wr : List Addr} {G : Array GenState → Array GenState → Prop} {n : Nat} {Pv : Nat → Value → Prop} {Z : Nat → Shared → Prop} {R : Result → Shared → Prop} (W : WalksS P w A.in1 I fp wr G n Pv Z) {S : Addr} (nf : S ∉ fp) {ks : List Str} (en : n = ks.length) (few : ks.length + 1 < scanBound)
    (val : ∀ i v, Pv i v → ∃ x t, ks[i]? = some x ∧ v = .str x t) {h0 : Heap} (nS : h0.get? S = none) (nw : ∀ b ∈ wr, h0.get? b = none) :
    ∀ (d i : Nat) (s : Shared), i + d = n → Z i s → Old h0 s.heap → SSet P w s.heap S (ks.take i) →
      (∀ s', Moved (S :: wr) G s s' → SSet P w s'.heap S (ks.take n) → Old h0 s'.heap → R (.ok (.ret .none)) s') → codeAny (model P w) A (.builtin "set.update.loop" ⟨[.ref S, .ref I], []⟩) R s := by
  have nw2 : S ∉ wr := fun z => nf (W.sub _ z)
  have up : ∀ b ∈ wr, b ∈ S :: wr := fun b hb => List.mem_cons_of_mem _ hb
  have old2 : ∀ {s s' : Shared}, Moved wr G s s' → Old h0 s.heap → Old h0 s'.heap := fun mv k b o e => mv.heap b o (fun hb => by
    rw [nw b hb] at e
    cases e) (k b o e)
  intro d
  induction d with
  | zero =>
    intro i s hi z k0 T q
    have hi : i = n := hi
    subst hi
    refine codeAny_builtin F.entry_set_update_loop ?_
    rw [Around.under_plainId F.plain_set_update_loop _]
    refine wpAny_bind (m := pyNext (.ref I)) (W.done s _ _ z fun s' mv => ?_)
    exact wpAny_pure (q s' (mv.mono up) (T.keep fun o e => mv.heap S o nw2 e) (old2 mv k0))
  | succ d ih =>
    intro i s hi z k0 T q
    refine codeAny_builtin F.entry_set_update_loop ?_
    rw [Around.under_plainId F.plain_set_update_loop _]
    refine wpAny_bind (m := pyNext (.ref I)) (W.item i s _ _ (by omega) z fun v s' hv z' mv => ?_)
    obtain ⟨x, tt, hx, rfl⟩ := val i v hv
    have k1 := old2 mv k0
    have T1 : SSet P w s'.heap S (ks.take i) := T.keep fun o e => mv.heap S o nw2 e
    show wpAny _ A.in1 (holding [Value.str x tt] (setAdd S (.str x tt)) >>= _) _ _ s'
    refine wpAny_bind (wpAny_holding ?_)
    unfold setAdd
    refine wpAny_holding (wpAny_bind ((strKind P w).pyHash (k := x) (strKind_is _ _ _ _) ?_))
    have ez : ks.take (i + 1) = ks.take i ++ [x] := by
      rw [List.take_add_one, hx]
      rfl
    have room : (dd (ks.take i)).length + 1 < scanBound := by
      have := dd_len _ (ks.take i) rfl
      have : (ks.take i).length ≤ ks.length := by
        rw [List.length_take]
        exact Nat.min_le_right _ _
      omega
    refine wpAny_setAddHashed_of (knd := strKind P w) (s := { s' with toks := s'.toks + 1 }) (strKind_is _ _ _ _) rfl T1 room fun h' sb T2 => ?_
    have T3 : SSet P w h' S (ks.take (i + 1)) := by
      have mi := dd_mem x _ (ks.take i) rfl
      refine SetOf_congr T2 (fun k => ?_) ?_
      · rw [ez]
        by_cases c : k ∈ ks.take i <;> by_cases c2 : k = x <;> simp [c, c2, List.mem_append]
      · rw [ez, dd_snoc]
        by_cases c : x ∈ ks.take i
        · rw [if_pos (mi.mpr c), if_pos (decide_eq_true c)]
        · rw [if_neg (fun z => c (mi.mp z)), if_neg (by simpa using c), List.length_append]
          rfl
    have nS2 : ∀ b o, h0.get? b = some o → b ≠ S := fun b o e z => by
      rw [z, nS] at e
      cases e
    have k2 : Old h0 h' := fun b o e => (sb.2 b (nS2 b o e)).trans (k1 b o e)
    refine wpAny_pure ⟨plainId_quiet F.plain_set_update_loop _, ih (i + 1) _ (by omega) (W.frame _ s' _ _ z' (Nat.le_succ _) fun b hb o e => ?_) k2 T3 fun s'' mv2 T4 k3 => ?_⟩
    · have : b ≠ S := fun z => nf (z ▸ hb)
      rw [sb.2 b this]
      exact e
    · refine q s'' (Moved.trans W.gtrans ((mv.mono up).then_heap (Nat.le_succ _) fun b o hb e => ?_) mv2) T4 k3
      have : b ≠ S := fun z => hb (z ▸ List.mem_cons_self)
      rw [sb.2 b this]
      exact e
/-- set(xs) -/
theorem call_setS {l : Addr} {its : Array Value} {ks : List Str} {Q : Value → Shared → Prop} (hh : A.handled = none) (il : s.heap.IsList l its) (ei : StrsAre its.toList ks) (few : ks.length + 1 < scanBound)
    (q : ∀ (h' : Heap) (tk : Nat), SSet P w h' s.heap.objs.size ks → Old s.heap h' → Q (.ref s.heap.objs.size) { s with heap := h', toks := tk }) : wpAny (model P w) A (call (.type "set") [.ref l]) Q E s := by
  have zi : its.size = ks.length := by
    rw [← Array.length_toList, ei.len_eq]
  obtain ⟨c0, tl, hmro⟩ := F.called_set.mro
  have y1 := F.called_set.made
  have y2 := F.called_set.sub
  refine wpAny_call (codeAny_of_tree ?_)
  show wpAny _ _ (callAny (.type "set") _) _ _ _
  refine wpAny_pure ⟨Code.quiet_builtin _ (by decide +kernel), codeAny_builtin F.entry_type_call ?_⟩
  rw [Around.under_plain (weight_type_call_type "set" [.ref l] []) rfl]
  have y3 := F.called_set.notType
  have y4 := F.called_set.canCreate
  have y5 := F.typeCall_set_1 (.ref l)
  repeat (any_goals (first | assumption | wp_step))
  refine codeAny_mono (code_set_led1 (.ref l) (E := E) (Q₁ := fun o1 s1 => o1 = .ref s.heap.objs.size ∧ s1 = { s with heap := s.heap.push (newO w) }) ⟨rfl, rfl⟩) fun r s1 hr => ?_
  cases r with
  | error e => exact hr
  | ok fl =>
    cases fl with
    | ret o1 =>
      obtain ⟨rfl, rfl⟩ := hr
      have oS : (s.heap.push (newO w)).get? s.heap.objs.size = some (newO w) := Heap.get?_push_size _ rfl
      have tS : Shared.TypeIs { s with heap := s.heap.push (newO w) } (.ref s.heap.objs.size) "set" := ⟨_, oS, rfl⟩
      have y6 := F.called_set.init.lookup
      have y7 := F.called_set.init.bind (.ref s.heap.objs.size)
      repeat (any_goals (first | assumption | wp_step))
      refine codeAny_mono (codeAny_call_builtin (R := wants (fun r s2 => r = .none ∧ ∃ h' tk, s2 = { s with heap := h', toks := tk } ∧ SSet P w h' s.heap.objs.size ks ∧ Old s.heap h') E) F.called_set.init.plain F.entry_set_init (check_set_init_1 tS ?_)) fun r2 s2 hr2 => ?_
      · obtain ⟨ol, el, cl, nl, dl⟩ := il
        obtain ⟨oc, odi, oda, osl⟩ := ol
        simp only at cl dl
        subst cl dl
        have el' : (s.heap.push (newO w)).get? l = some { cls := .type "list", dict := odi, data := .seq its nl, slots := osl } := Heap.get?_push_of_some _ el
        have y8 := F.sub_list_set
        have y9 := F.sub_list_frozenset
        have y10 : (Value.type "list" == Value.type "dict") = false := by decide
        have il' : (s.heap.push (newO w)).IsList l its := ⟨_, el', rfl, nl, rfl⟩
        unfold Builtin.«set.__init__» noKeywords Builtin.Frozenset.updateFrom
        generalize hPI : pyIter = PI
        wp_walk
        subst hPI
        refine wpAny_pyIter_list il' ?_
        refine wpAny_bind (wpAny_runValue ?_)
        have ll : l < s.heap.objs.size := Heap.lt_size el
        have hh3 : A.in1.in1.in1.handled = none := by simp [hh]
        have zp : (s.heap.push (newO w)).objs.size = s.heap.objs.size + 1 := Heap.size_push ..
        have ne1 : l ≠ (s.heap.push (newO w)).objs.size := by
          rw [zp]
          exact Nat.ne_of_lt (Nat.lt_succ_of_lt ll)
        have ne2 : s.heap.objs.size ∉ [(s.heap.push (newO w)).objs.size, l] := fun z => by
          have : s.heap.objs.size = (s.heap.push (newO w)).objs.size ∨ s.heap.objs.size = l := by simpa using z
          rw [zp] at this
          rcases this with e | e
          · exact Nat.succ_ne_self _ e.symm
          · exact Nat.ne_of_gt ll e
        have val : ∀ (i : Nat) (v : Value), its[i]? = some v → ∃ x t, ks[i]? = some x ∧ v = .str x t := fun i v hv => strs_at ei (by
          rw [Array.getElem?_toList]
          exact hv)
        refine fillS ((Walks.list hh3 _ l ne1 its).toS) ne2 zi few val (get_top (Nat.le_refl _)) (fun b hb => get_top (by
          rw [List.mem_singleton.mp hb, zp]
          exact Nat.le_succ _)) its.size 0 _ (Nat.zero_add _) ⟨⟨_, Heap.get?_push_size _ rfl, rfl, rfl⟩, il'.push _⟩ (fun b o e => Heap.get?_push_of_some _ (Heap.get?_push_of_some _ e)) ?start ?stop
        case start =>
          have oS2 := Heap.get?_push_of_some { cls := .type "list_iterator", data := .fields #[.ref l, .int 0 0] } oS
          exact SetOf_congr ((setObjOf_fresh (knd := strKind P w) _).setOf oS2 (by decide)) (fun _ => rfl) rfl
        case stop =>
          intro s' mv T k
          obtain ⟨h', g1, d1, tk, os1⟩ := s'
          have z1 : g1 = s.gens := mv.gens
          have z2 : d1 = s.drawn := mv.drawn
          have z3 : os1 = s.os := mv.os
          subst z1 z2 z3
          show wpAny _ _ _ _ _ _
          refine wpAny_pure ?_
          show wpAny _ _ (ret Value.none) _ _ _
          rw [zi, List.take_length] at T
          exact wpAny_pure ⟨rfl, h', tk, rfl, T, k⟩
      · cases r2 with
        | error e => exact hr2
        | ok fl2 =>
          cases fl2 with
          | ret r =>
            obtain ⟨rfl, h', tk, rfl, T, k⟩ := hr2
            repeat (any_goals (first | assumption | wp_step))
            exact q _ _ T k
          | _ => exact hr2.elim
    | _ => exact hr.elim
end
/-- len(set(xs)) -/
def tLset (K : PySem.W.Frag) (ta : TE) : TE := fun σ H Q => ta σ H fun x H1 => ∃ (l : Addr) (xs : List Str), x = .ref l ∧ SqL K H1 l (xs.map V.str) ∧ xs.length ≤ 4000 ∧ Q (.int (dd xs).length) H1
theorem pe_lset {X : Cx} {a : Expr} {ta : TE} {p p2 q pos : Pos} (hg : Gl X "len") (hm : X.mg "len" = none) (hg2 : Gl X "set") (hm2 : X.mg "set" = none) (ha : PE X a ta) (hc : X.calm = true)
    (na : starEach [a] X.env = (false, eval a X.env) :: starEach [] X.env) : PE X (.Call (.Name "len" p) [.Call (.Name "set" p2) [a] [] q] [] pos) (tLset X.K ta) := by
  refine ⟨fun pins s σ H Q I pr => Call_ (ld_blt I hg hm boot_len (callWith_builtin1 (args_cons (Call_ (ld_blt I hg2 hm2 boot_set (callWith_type1 (args_cons (wpAny_mono (ha.run pins s σ H _ I pr) (fun v s1 hh => args_nil ?_) fun _ _ z => z) na) na rfl))) rfl) rfl rfl))⟩
  obtain ⟨x, H1, J, r1, l, xs, rfl, sq, few, qq⟩ := hh
  cases r1
  obtain ⟨its, r, pl, _⟩ := J.list sq
  refine call_setS (ks := xs) (J.ok.hd hc) pl.isList (by simpa using strsAre_of r) (by unfold scanBound; omega) fun h' tk T old => args_nil ?_
  obtain ⟨o, es, ep, t, e1, e2, e3, _, _, _, e4, e5⟩ := T
  have J2 : Inv X pins σ H1 { s1 with heap := h', toks := tk } := J.kept fun b u e => old b u e
  have z := dd_len _ xs rfl
  exact call_len_set e1 e2 e3 e4 (by rw [e5] <;> omega) ⟨.int (dd xs).length, H1, J2.tok _, ⟨_, by rw [e5]⟩, qq⟩
end VS

set_option Elab.async false
set_option linter.all false
set_option maxRecDepth 100000
set_option maxHeartbeats 4000000
/-! VE, part 1: data without addresses, how it lies in the abstract heap, the own syntax, the evaluator. -/
namespace VE
open PySem PySem.Spec PyProof.Rows L2

/-! ### data -/
inductive D where
  | non | bl (b : Bool) | int (i : Int) | str (s : Str)
  | tup (xs : List D) | lst (xs : List D)
  /-- a list of the caller's that no one writes (the script) -/
  | fz (xs : List D)
  | dK (kvs : List (Key × D)) | dT (kvs : List (List Key × D))
  | obj (n : Nat)
  | ins (c : Nat) (fs : List (Str × D))
  deriving Inhabited

/-- what stands behind a number of the store -/
inductive Cell where
  | box (d : D)
  | ins (c : Nat) (fs : List (Str × D))
  deriving Inhabited
abbrev Sto := List Cell
abbrev Env := List (Option D)

/-! ### how data lies -/
structure Gh where
  G : Hp
  A : List (List Addr)
def Gh.fp (g : Gh) (a : Addr) : Prop := ∃ l ∈ g.A, a ∈ l
def Gh.at_ (g : Gh) (n : Nat) : Option Addr := (g.A[n]?).bind (·.head?)
def strOk (s : Str) : Prop := s.length ≤ sizeLine ∧ s.cps.all (· < 0x110000) = true

mutual
inductive Rep (K : PySem.W.Frag) (ca : Nat → Addr) (g : Gh) : V → D → Prop
  | non : Rep K ca g .non .non
  | bl (b : Bool) : Rep K ca g (.bl b) (.bl b)
  | int (i : Int) : Rep K ca g (.int i) (.int i)
  | str (s : Str) : strOk s → Rep K ca g (.str s) (.str s)
  | tup {a : Addr} {vs : List V} {ds : List D} : SqT K g.G a vs → vs.length ≤ sizeLine → Reps K ca g vs ds → Rep K ca g (.ref a) (.tup ds)
  | lst {a : Addr} {vs : List V} {ds : List D} : g.G a = some (.lst vs) → vs.length ≤ sizeLine → Reps K ca g vs ds → Rep K ca g (.ref a) (.lst ds)
  | fz {a : Addr} {vs : List V} {ds : List D} : SqL K g.G a vs → vs.length ≤ sizeLine → Reps K ca g vs ds → Rep K ca g (.ref a) (.fz ds)
  | dK {a : Addr} {kvs : List (Key × V)} {es : List (Key × D)} : g.G a = some (.dK kvs) → kvs.map (·.1) = es.map (·.1) → Reps K ca g (kvs.map (·.2)) (es.map (·.2)) → Rep K ca g (.ref a) (.dK es)
  | dT {a : Addr} {kvs : List (List Key × V)} {es : List (List Key × D)} : g.G a = some (.dT kvs) → kvs.map (·.1) = es.map (·.1) → Reps K ca g (kvs.map (·.2)) (es.map (·.2)) → Rep K ca g (.ref a) (.dT es)
  | obj {a : Addr} {n : Nat} : g.at_ n = some a → Rep K ca g (.ref a) (.obj n)
  | ins {a dx : Addr} {c : Nat} {fs : List (Str × V)} {es : List (Str × D)} : g.G a = some (.ins (ca c) dx fs) → g.G dx = some (.own a) → fs.map (·.1) = es.map (·.1) → Reps K ca g (fs.map (·.2)) (es.map (·.2)) → Rep K ca g (.ref a) (.ins c es)
inductive Reps (K : PySem.W.Frag) (ca : Nat → Addr) (g : Gh) : List V → List D → Prop
  | nil : Reps K ca g [] []
  | cons {v : V} {d : D} {vs : List V} {ds : List D} : Rep K ca g v d → Reps K ca g vs ds → Reps K ca g (v :: vs) (d :: ds)
end

section
variable {K : PySem.W.Frag} {ca : Nat → Addr} {g g' : Gh}
theorem SqL.mono {H H' : Hp} {a : Addr} {xs : List V} (e : Same H H') (h : SqL K H a xs) : SqL K H' a xs := e.seq h
theorem SqT.mono {H H' : Hp} {a : Addr} {xs : List V} (e : Same H H') (h : SqT K H a xs) : SqT K H' a xs := by
  rcases h with (h | ⟨o, h⟩) | h
  · exact .inl (.inl (e _ _ h))
  · exact .inl (.inr ⟨o, e _ _ h⟩)
  · exact .inr h
structure GhLe (g g' : Gh) : Prop where
  ext : Same g.G g'.G
  at_ : ∀ n a, g.at_ n = some a → g'.at_ n = some a
theorem GhLe.refl (g : Gh) : GhLe g g := ⟨Same.refl _, fun _ _ h => h⟩
theorem GhLe.trans {g1 g2 g3 : Gh} (a : GhLe g1 g2) (b : GhLe g2 g3) : GhLe g1 g3 := ⟨a.ext.trans b.ext, fun n x h => b.at_ n x (a.at_ n x h)⟩
mutual
theorem Rep.mono (l : GhLe g g') : ∀ {v : V} {d : D}, Rep K ca g v d → Rep K ca g' v d
  | _, _, .non => .non
  | _, _, .bl b => .bl b
  | _, _, .int i => .int i
  | _, _, .str s h => .str s h
  | _, _, .tup h z r => .tup (SqT.mono l.ext h) z (Reps.mono l r)
  | _, _, .lst h z r => .lst (l.ext _ _ h) z (Reps.mono l r)
  | _, _, .fz h z r => .fz (SqL.mono l.ext h) z (Reps.mono l r)
  | _, _, .dK h k r => .dK (l.ext _ _ h) k (Reps.mono l r)
  | _, _, .dT h k r => .dT (l.ext _ _ h) k (Reps.mono l r)
  | _, _, .obj h => .obj (l.at_ _ _ h)
  | _, _, .ins h h2 k r => .ins (l.ext _ _ h) (l.ext _ _ h2) k (Reps.mono l r)
theorem Reps.mono (l : GhLe g g') : ∀ {vs : List V} {ds : List D}, Reps K ca g vs ds → Reps K ca g' vs ds
  | _, _, .nil => .nil
  | _, _, .cons h t => .cons (Rep.mono l h) (Reps.mono l t)
end
theorem Reps.length : ∀ {vs : List V} {ds : List D}, Reps K ca g vs ds → vs.length = ds.length
  | _, _, .nil => rfl
  | _, _, .cons _ t => by rw [List.length_cons, List.length_cons, Reps.length t]
theorem Reps.append : ∀ {vs : List V} {ds : List D} {ws : List V} {es : List D}, Reps K ca g vs ds → Reps K ca g ws es → Reps K ca g (vs ++ ws) (ds ++ es)
  | _, _, _, _, .nil, h => h
  | _, _, _, _, .cons a t, h => .cons a (Reps.append t h)
theorem Reps.get : ∀ {vs : List V} {ds : List D} {i : Nat} {d : D}, Reps K ca g vs ds → ds[i]? = some d → ∃ v, vs[i]? = some v ∧ Rep K ca g v d
  | _, _, _, _, .nil, h => by simp at h
  | _, _, 0, _, .cons a t, h => by
    simp at h
    subst h
    exact ⟨_, rfl, a⟩
  | _, _, i + 1, _, .cons a t, h => by
    obtain ⟨v, e, r⟩ := Reps.get (i := i) t (by simpa using h)
    exact ⟨v, by simpa using e, r⟩
theorem Reps.getV : ∀ {vs : List V} {ds : List D} {i : Nat} {v : V}, Reps K ca g vs ds → vs[i]? = some v → ∃ d, ds[i]? = some d ∧ Rep K ca g v d
  | _, _, _, _, .nil, h => by simp at h
  | _, _, 0, _, .cons a t, h => by
    simp at h
    subst h
    exact ⟨_, rfl, a⟩
  | _, _, i + 1, _, .cons a t, h => by
    obtain ⟨v, e, r⟩ := Reps.getV (i := i) t (by simpa using h)
    exact ⟨v, by simpa using e, r⟩
theorem Reps.take : ∀ {vs : List V} {ds : List D} (n : Nat), Reps K ca g vs ds → Reps K ca g (vs.take n) (ds.take n)
  | _, _, 0, _ => .nil
  | _, _, _ + 1, .nil => .nil
  | _, _, n + 1, .cons a t => .cons a (Reps.take n t)
theorem Reps.drop : ∀ {vs : List V} {ds : List D} (n : Nat), Reps K ca g vs ds → Reps K ca g (vs.drop n) (ds.drop n)
  | _, _, 0, h => h
  | _, _, _ + 1, .nil => .nil
  | _, _, n + 1, .cons a t => Reps.drop n t
theorem Reps.set {v : V} {d : D} (r : Rep K ca g v d) : ∀ {vs : List V} {ds : List D} (i : Nat), Reps K ca g vs ds → Reps K ca g (vs.set i v) (ds.set i d)
  | _, _, _, .nil => .nil
  | _, _, 0, .cons _ t => .cons r t
  | _, _, i + 1, .cons a t => .cons a (Reps.set r i t)
theorem Reps.reverse : ∀ {vs : List V} {ds : List D}, Reps K ca g vs ds → Reps K ca g vs.reverse ds.reverse
  | _, _, .nil => .nil
  | _, _, .cons a t => by
    rw [List.reverse_cons, List.reverse_cons]
    exact (Reps.reverse t).append (.cons a .nil)
theorem Reps.ints : ∀ {ns : List Int} {vs : List V}, Reps K ca g vs (ns.map D.int) → vs = ns.map V.int
  | [], _, .nil => rfl
  | n :: ns, _, .cons a t => by
    cases a
    rw [Reps.ints t]
    rfl
theorem Reps.of_ints : ∀ (ns : List Int), Reps K ca g (ns.map V.int) (ns.map D.int)
  | [] => .nil
  | n :: ns => .cons (.int n) (Reps.of_ints ns)
theorem Reps.bls : ∀ {ns : List Bool} {vs : List V}, Reps K ca g vs (ns.map D.bl) → vs = ns.map V.bl
  | [], _, .nil => rfl
  | n :: ns, _, .cons a t => by
    cases a
    rw [Reps.bls t]
    rfl
theorem Reps.strs : ∀ {ns : List Str} {vs : List V}, Reps K ca g vs (ns.map D.str) → vs = ns.map V.str ∧ ∀ s ∈ ns, strOk s
  | [], _, .nil => ⟨rfl, fun _ h => nomatch h⟩
  | n :: ns, _, .cons a t => by
    cases a with
    | str _ h =>
      obtain ⟨e, q⟩ := Reps.strs t
      exact ⟨by rw [e]; rfl, fun s hs => by
        rcases List.mem_cons.mp hs with rfl | hs
        · exact h
        · exact q s hs⟩
theorem Reps.of_strs : ∀ (ns : List Str), (∀ s ∈ ns, strOk s) → Reps K ca g (ns.map V.str) (ns.map D.str)
  | [], _ => .nil
  | n :: ns, h => .cons (.str n (h n List.mem_cons_self)) (Reps.of_strs ns fun s hs => h s (List.mem_cons_of_mem _ hs))
end

/-! ### data as the library's data -/
mutual
def D.pd : D → Option PyData
  | .non => some .none
  | .bl b => some (.bool b)
  | .int i => some (.int i)
  | .str s => some (.str s)
  | .tup xs => (D.pds xs).map .tuple
  | .lst xs => (D.pds xs).map .list
  | _ => none
def D.pds : List D → Option (List PyData)
  | [] => some []
  | x :: xs => match D.pd x, D.pds xs with
    | some p, some q => some (p :: q)
    | _, _ => none
end
/-- a truth -/
def D.tru : D → Option Bool
  | .non => some false
  | .bl b => some b
  | .int i => some (i != 0)
  | .str s => some (s.length != 0)
  | .tup xs => some (!xs.isEmpty)
  | .lst xs => some (!xs.isEmpty)
  | .dK kvs => some (!kvs.isEmpty)
  | _ => none

section
variable {K : PySem.W.Frag} {ca : Nat → Addr} {g : Gh} {H : Hp}
mutual
theorem Rep.dp (hs : Same g.G H) : ∀ {v : V} {d : D} {p : PyData}, Rep K ca g v d → d.pd = some p → Dp K H v p ∧ p.canLay0 = true
  | _, _, _, .non, h => by
    cases h
    exact ⟨.non, rfl⟩
  | _, _, _, .bl b, h => by
    cases h
    exact ⟨.bl b, rfl⟩
  | _, _, _, .int i, h => by
    cases h
    exact ⟨.int i, rfl⟩
  | _, _, _, .str s k, h => by
    cases h
    exact ⟨.str s, by simp only [PyData.canLay0]; exact k.2⟩
  | _, _, _, .tup (ds := ds) hq z r, h => by
    simp only [D.pd] at h
    cases e : D.pds ds with
    | none =>
      rw [e] at h
      cases h
    | some q =>
      rw [e] at h
      cases h
      obtain ⟨h1, h2⟩ := Reps.dps hs r e
      exact ⟨.tup (SqT.mono hs hq) h1, by simp only [PyData.canLay0]; exact h2⟩
  | _, _, _, .lst (ds := ds) hq z r, h => by
    simp only [D.pd] at h
    cases e : D.pds ds with
    | none =>
      rw [e] at h
      cases h
    | some q =>
      rw [e] at h
      cases h
      obtain ⟨h1, h2⟩ := Reps.dps hs r e
      exact ⟨.lst (.inl (.inl (hs _ _ hq))) h1, by simp only [PyData.canLay0]; exact h2⟩
  | _, _, _, .fz _ _ _, h => by cases h
  | _, _, _, .dK _ _ _, h => by cases h
  | _, _, _, .dT _ _ _, h => by cases h
  | _, _, _, .obj _, h => by cases h
  | _, _, _, .ins _ _ _ _, h => by cases h
theorem Reps.dps (hs : Same g.G H) : ∀ {vs : List V} {ds : List D} {ps : List PyData}, Reps K ca g vs ds → D.pds ds = some ps → DpAll K H vs ps ∧ PyData.canLayAll0 ps = true
  | _, _, _, .nil, h => by
    cases h
    exact ⟨.nil, by simp [PyData.canLayAll0]⟩
  | _, _, _, .cons (d := d) (ds := ds) a t, h => by
    simp only [D.pds] at h
    cases e1 : D.pd d with
    | none =>
      rw [e1] at h
      cases h
    | some p =>
      cases e2 : D.pds ds with
      | none =>
        rw [e1, e2] at h
        cases h
      | some q =>
        rw [e1, e2] at h
        cases h
        obtain ⟨h1, h2⟩ := Rep.dp hs a e1
        obtain ⟨h3, h4⟩ := Reps.dps hs t e2
        exact ⟨.cons h1 h3, by simp only [PyData.canLayAll0, h2, h4]; rfl⟩
end
end
end VE

set_option Elab.async false
set_option linter.all false
set_option maxRecDepth 100000
set_option maxHeartbeats 4000000
/-! VE, part 2: the own syntax and the evaluator. -/
namespace VE
open PySem PySem.Spec PyProof.Rows L2

/-! ### the own syntax -/
inductive Op2 where
  | add | sub | mul | mod | fdiv | pow | shr | band
  deriving DecidableEq
inductive Cm where
  | eq | ne | lt | le | gt | ge | isin | notin
  deriving DecidableEq
/-- built-ins called by their names -/
inductive Bi where
  | len | int | str | abs | max | min | sum | all | any | list | tuple | sorted | sortedSet | lenSet | repr | tupleZip
  deriving DecidableEq
/-- methods of built-in types that change nothing -/
inductive Me where
  | join | split | partition
  deriving DecidableEq
/-- what isinstance asks -/
inductive Ty where
  | int | bool | str | list | tuple
  deriving DecidableEq
inductive Tg where
  | n (i : Nat) | t (ts : List Tg)
inductive T where
  | non | bl (b : Bool) | int (i : Int) | str (s : Str)
  | v (i : Nat)
  | g (k : Nat)
  | bin (o : Op2) (a b : T)
  | neg (a : T) | no (a : T)
  | cmp (c : Cm) (a b : T)
  | isN (a : T) | notN (a : T) | isB (a : T) (b : Bool) | notB (a : T) (b : Bool)
  | chn (c c' : Cm) (a b e : T)
  | an (ts : List T) | orr (ts : List T)
  | ite (c a b : T)
  | tup (ts : List T) | lst (ts : List T) | box (ts : List T)
  | ix (a i : T)
  | sl (a lo hi : T)
  | rev (a : T)
  | call (f : Nat) (ts : List T)
  | bi (b : Bi) (ts : List T)
  | isi (a : T) (t : Ty)
  | me (m : Me) (a : T) (ts : List T)
  | comp (e : T) (tg : Tg) (it : T) (cs : List T)
  | rng (ts : List T) | zip (a b : T) | enum (a : T)
  | tzip (a b : T)
  | sset (b : Bool) (a : T)
  | fld (c i : Nat) (x : Str)
  | flen (c i : Nat) (x : Str)
  | fne (c i : Nat) (x : Str)
  | fix (c i : Nat) (x : Str) (k : Int)
  | ftup (c i : Nat) (x : Str)
  | fcomp (c i : Nat) (x : Str) (tg : Tg) (e : T)
  | new (c f : Nat) (ts : List T)
  | mcall (c f i : Nat) (m : Str) (ts : List T)
  | bad
  | din (x : Str) (es : List (Str × Int)) (a : T)
  | dix (x : Str) (es : List (Str × Int)) (a : T)
  | dget (x : Str) (es : List (Str × Int)) (a b : T)
  | lset (a : T)

inductive St where
  | asg (i : Nat) (e : T)
  | asgT (tg : Tg) (e : T)
  | par (is : List Nat) (es : List T)
  | expr (e : T)
  | app (i : Nat) (e : T)
  | extd (i : Nat) (e : T)
  | insr (i : Nat) (a e : T)
  | setI (i : Nat) (k e : T)
  | bset (b k e : T)
  | fset (c i : Nat) (x : Str) (fr : Bool) (e : T)
  | fapp (c i : Nat) (x : Str) (j : Nat)
  | bad
  | aug (i : Nat) (sub : Bool) (e : T)
  | iff (c : T) (a b : List St)
  | forr (tg : Tg) (it : T) (b : List St)
  | whil (c : T) (b : List St)
  | ret (e : T) | retN
  | pass
  | frz (is : List Nat)

def St.isFrz : St → Option (List Nat)
  | .frz is => some is
  | _ => none
/-! ### results -/
structure Exc where
  c : Nat
  fs : List (Str × D)
inductive Res (α : Type) where
  | ok (a : α) (S : Sto)
  | exc (x : Exc) (S : Sto)
  | err
def Res.bind {α β : Type} (r : Res α) (f : α → Sto → Res β) : Res β := match r with
  | .ok a S => f a S
  | .exc x S => .exc x S
  | .err => .err
@[simp] theorem Res.ok_bind {α β : Type} (a : α) (S : Sto) (f : α → Sto → Res β) : (Res.ok a S).bind f = f a S := rfl
@[simp] theorem Res.exc_bind {α β : Type} (x : Exc) (S : Sto) (f : α → Sto → Res β) : (Res.exc x S).bind f = .exc x S := rfl
@[simp] theorem Res.err_bind {α β : Type} (f : α → Sto → Res β) : (Res.err : Res α).bind f = .err := rfl
/-- an exception that may not leave -/
def Res.noexc {α : Type} (r : Res α) : Res α := match r with
  | .exc _ _ => .err
  | r => r
@[simp] theorem Res.ok_noexc {α : Type} (a : α) (S : Sto) : (Res.ok a S).noexc = .ok a S := rfl
def lift {α : Type} (o : Option α) (S : Sto) : Res α := match o with
  | some a => .ok a S
  | none => .err
@[simp] theorem lift_some {α : Type} (a : α) (S : Sto) : lift (some a) S = .ok a S := rfl
@[simp] theorem lift_none {α : Type} (S : Sto) : lift (none : Option α) S = .err := rfl
inductive Out where
  | nx (env : Env) (S : Sto)
  | rt (d : D) (S : Sto)
  | exc (x : Exc) (env : Env) (S : Sto)
  | err
/-- what follows an evaluation -/
def Res.outs {α : Type} (r : Res α) (env : Env) (f : α → Sto → Out) : Out := match r with
  | .ok a S => f a S
  | .exc x S => .exc x env S
  | .err => .err
@[simp] theorem Res.ok_outs {α : Type} (a : α) (S : Sto) (env : Env) (f : α → Sto → Out) : (Res.ok a S).outs env f = f a S := rfl
@[simp] theorem Res.exc_outs {α : Type} (x : Exc) (S : Sto) (env : Env) (f : α → Sto → Out) : (Res.exc x S : Res α).outs env f = .exc x env S := rfl
@[simp] theorem Res.err_outs {α : Type} (env : Env) (f : α → Sto → Out) : (Res.err : Res α).outs env f = .err := rfl
def Out.andThen (o : Out) (f : Env → Sto → Out) : Out := match o with
  | .nx env S => f env S
  | .rt d S => .rt d S
  | .exc x env S => .exc x env S
  | .err => .err
@[simp] theorem Out.nx_then (env : Env) (S : Sto) (f : Env → Sto → Out) : (Out.nx env S).andThen f = f env S := rfl
@[simp] theorem Out.rt_then (d : D) (S : Sto) (f : Env → Sto → Out) : (Out.rt d S).andThen f = .rt d S := rfl
@[simp] theorem Out.exc_then (x : Exc) (env : Env) (S : Sto) (f : Env → Sto → Out) : (Out.exc x env S).andThen f = .exc x env S := rfl
@[simp] theorem Out.err_then (f : Env → Sto → Out) : (Out.err).andThen f = .err := rfl

/-! ### operations on data -/
/-- equality of data -/
def evEq (a b : D) : Option Bool := match a.pd, b.pd with
  | some p, some q => if p.depth ≤ 64 ∧ q.depth ≤ 64 then some (PyData.eqv p q) else none
  | _, _ => none
/-- the order: ints, texts -/
def evLt (a b : D) : Option Bool := match a, b with
  | .int i, .int j => some (decide (i < j))
  | .str x, .str y => some (decide (x.cps.toList < y.cps.toList))
  | _, _ => none
/-- flat data -/
def flatD : D → Bool
  | .non => true
  | .bl _ => true
  | .int _ => true
  | .str _ => true
  | _ => false
def eqF : D → D → Bool
  | .non, .non => true
  | .bl a, .bl b => a == b
  | .bl a, .int b => (if a then 1 else 0) == b
  | .int a, .bl b => a == (if b then 1 else 0)
  | .int a, .int b => a == b
  | .str a, .str b => a == b
  | _, _ => false
def evIn (a b : D) : Option Bool := match b with
  | .str y => match a with
    | .str x => some (!(Builtin.Str.occurrences y x 0 y.length 1).isEmpty)
    | _ => none
  | .tup ys => if flatD a = true ∧ ys.all flatD = true then some (ys.any fun z => eqF z a) else none
  | .lst ys => if flatD a = true ∧ ys.all flatD = true then some (ys.any fun z => eqF z a) else
    match a.pd, D.pds ys with
    | some p, some q => if p.depth ≤ 64 ∧ (PyData.list q).depth ≤ 64 then some (q.any fun z => PyData.eqv z p) else none
    | _, _ => none
  | _ => none
def evCmp (c : Cm) (a b : D) : Option Bool := match c with
  | .eq => evEq a b
  | .ne => (evEq a b).map (!·)
  | .lt => evLt a b
  | .gt => evLt b a
  | .le => match a, b with
    | .int i, .int j => some (decide (i ≤ j))
    | .str x, .str y => some (!decide (y.cps.toList < x.cps.toList))
    | _, _ => none
  | .ge => match a, b with
    | .int i, .int j => some (decide (j ≤ i))
    | .str x, .str y => some (!decide (x.cps.toList < y.cps.toList))
    | _, _ => none
  | .isin => evIn a b
  | .notin => (evIn a b).map (!·)
instance (i j : Int) : Decidable (CMul i j) := inferInstanceAs (Decidable ((-(2 ^ 64) < i ∧ i < 2 ^ 64) ∨ (-(2 ^ 64) < j ∧ j < 2 ^ 64)))
def evBin (o : Op2) (a b : D) : Option D := match o, a, b with
  | .add, .int i, .int j => some (.int (i + j))
  | .add, .str x, .str y => if x.length + y.length ≤ sizeLine then some (.str (x ++ y)) else none
  | .add, .lst x, .lst y => if x.length + y.length ≤ sizeLine then some (.lst (x ++ y)) else none
  | .add, .tup x, .tup y => if x.length + y.length ≤ sizeLine then some (.tup (x ++ y)) else none
  | .sub, .int i, .int j => some (.int (i - j))
  | .mul, .int i, .int j => if CMul i j then some (.int (i * j)) else none
  | .mod, .int i, .int j => if 0 < j then some (.int (i % j)) else none
  | .fdiv, .int i, .int j => if 0 < j ∧ j < 1073741824 then some (.int (i / j)) else none
  | .pow, .int i, .int j => if 0 ≤ j ∧ j ≤ 1000000 ∧ i.natAbs < 2 ^ 64 then some (.int (i ^ j.toNat)) else none
  | .shr, .int i, .int j => if 0 ≤ j then some (.int (i / 2 ^ j.toNat)) else none
  | .band, .int i, .int j => some (.int (Builtin.bitAnd i j))
  | _, _, _ => none
def evIx (a i : D) : Option D := match a, i with
  | .lst xs, .int i => atI xs i
  | .tup xs, .int i => atI xs i
  | .str s, .int i => (atI s.cps.toList i).map fun c => .str ⟨#[c]⟩
  | _, _ => none
def isNon : T → Bool
  | .non => true
  | _ => false
/-- a bound of a slice -/
def slB : Bool → D → Option (Option Int)
  | true, _ => some none
  | false, .int i => some (some i)
  | false, _ => none
def cutD (xs : List D) (lo hi : Option Int) : List D := (xs.drop (HT.sIx xs.length 0 lo)).take (HT.sIx xs.length xs.length hi - HT.sIx xs.length 0 lo)
def evSl (a : D) (lo hi : Option Int) : Option D := match a with
  | .fz xs => some (.lst (cutD xs lo hi))
  | .lst xs => some (.lst (cutD xs lo hi))
  | .tup xs => some (.tup (cutD xs lo hi))
  | .str s => some (.str (cutS s lo hi))
  | _ => none
def evRev : D → Option D
  | .lst xs => some (.lst xs.reverse)
  | .tup xs => some (.tup xs.reverse)
  | _ => none
def ints? : List D → Option (List Int)
  | [] => some []
  | .int i :: r => (ints? r).map (i :: ·)
  | _ :: _ => none
def bls? : List D → Option (List Bool)
  | [] => some []
  | .bl i :: r => (bls? r).map (i :: ·)
  | _ :: _ => none
def strs? : List D → Option (List Str)
  | [] => some []
  | .str i :: r => (strs? r).map (i :: ·)
  | _ :: _ => none
def encD (d : D) : PyData := d.pd.getD .none
/-- may be sorted: all of one kind -/
def sortOk (xs : List D) : Bool := xs.all (fun x => x.pd.isSome) && xs.all (fun x => xs.all fun y => PySem.W.alike (encD x) (encD y)) &&
  (xs.all (fun x => match x with | .tup (_ :: _) => true | _ => false) || xs.all (fun x => match x with | .tup _ => false | .non => false | _ => true)) && xs.all fun x => decide ((encD x).depth ≤ 64)
def evLen : D → Option D
  | .str s => some (.int s.length)
  | .lst xs => some (.int xs.length)
  | .fz xs => some (.int xs.length)
  | .tup xs => some (.int xs.length)
  | _ => none
def evInt : D → Option D
  | .int i => some (.int i)
  | .bl b => some (.int (if b then 1 else 0))
  | .str s => if s.length ≤ 640 then (PySem.intText? s).map .int else none
  | _ => none
def evStr : D → Option D
  | .int i => if i.natAbs.log2 < 1920 then some (.str (toString i)) else none
  | .str s => some (.str s)
  | _ => none
def evAbs : D → Option D
  | .int i => some (.int (if i < 0 then -i else i))
  | _ => none
def evMax : D → D → Option D
  | .int i, .int j => some (.int (if j > i then j else i))
  | _, _ => none
def evMin : D → D → Option D
  | .int i, .int j => some (.int (if j < i then j else i))
  | _, _ => none
def evSum : D → Option D
  | .lst xs => (ints? xs).map fun ns => .int ns.sum
  | _ => none
def evAll : D → Option D
  | .lst xs => (bls? xs).map fun ns => .bl (ns.all id)
  | _ => none
def evAny : D → Option D
  | .lst xs => (bls? xs).map fun ns => .bl (ns.any id)
  | _ => none
def evSorted : D → Option D
  | .lst xs => if sortOk xs then some (.lst (xs.mergeSort (PySem.W.dataLe false encD))) else none
  | _ => none
def evList : D → Option D
  | .lst xs => some (.lst xs)
  | .fz xs => some (.lst xs)
  | .tup xs => some (.lst xs)
  | _ => none
def evTuple : D → Option D
  | .lst xs => some (.tup xs)
  | .tup xs => some (.tup xs)
  | _ => none
/-- the text that repr tells -/
def evRepr (d : D) : Option D := match d with
  | .lst _ | .tup _ => match d.pd with
    | some p => if (p.depth ≤ 64 ∧ p.showable = true) ∧ p.shown.length ≤ sizeLine ∧ p.shown.cps.all (· < 0x110000) = true then some (.str p.shown) else none
    | none => none
  | _ => none
def ev1 (f : D → Option D) : List D → Option D
  | [x] => f x
  | _ => none
def ev2 (f : D → D → Option D) : List D → Option D
  | [x, y] => f x y
  | _ => none
def evBi (b : Bi) (as : List D) : Option D := match b with
  | .len => ev1 evLen as
  | .int => ev1 evInt as
  | .str => ev1 evStr as
  | .abs => ev1 evAbs as
  | .max => ev2 evMax as
  | .min => ev2 evMin as
  | .sum => ev1 evSum as
  | .all => ev1 evAll as
  | .any => ev1 evAny as
  | .sorted => ev1 evSorted as
  | .list => ev1 evList as
  | .tuple => ev1 evTuple as
  | .repr => ev1 evRepr as
  | _ => none
def evJoin (s : Str) : D → Option D
  | .lst xs => (strs? xs).bind fun ys => if (ys.map (·.length)).sum + ys.length * s.length ≤ 16777216 then some (.str (Txt.join s ys)) else none
  | _ => none
def evSplit (s : Str) : D → Option D
  | .str t => if t.length ≠ 0 ∧ s.length + 2 ≤ sizeLine ∧ t.cps.all (· < 256) = true then some (.lst ((TL.spl (TL.tl t) 0 [] (TL.tl s)).map fun l => .str ⟨l.toArray⟩)) else none
  | _ => none
def evPart (s : Str) : D → Option D
  | .str t => if t.length ≠ 0 ∧ s.length ≤ sizeLine then (match TL.par (TL.tl t) [] (TL.tl s) with
    | some (x, y) => some (.tup [.str ⟨x.toArray⟩, .str t, .str ⟨y.toArray⟩])
    | none => some (.tup [.str s, .str Str.empty, .str Str.empty])) else none
  | _ => none
def ev1s (f : Str → D → Option D) : D → List D → Option D
  | .str s, [x] => f s x
  | _, _ => none
def evMe (m : Me) (a : D) (as : List D) : Option D := match m with
  | .join => ev1s evJoin a as
  | .split => ev1s evSplit a as
  | .partition => ev1s evPart a as
/-- what may stand second in a pair -/
inductive Sc where
  | i (n : Int) | b (k : Bool)
  deriving DecidableEq
def Sc.d : Sc → D
  | .i n => .int n
  | .b k => .bl k
def Sc.v : Sc → V
  | .i n => .int n
  | .b k => .bl k
def Sc.k : Sc → Int
  | .i n => n
  | .b k => if k = true then 1 else 0
def Sc.p : Sc → PyData
  | .i n => .int n
  | .b k => .bool k
/-- of one kind -/
def Sc.is (b : Bool) : Sc → Bool
  | .i _ => !b
  | .b _ => b
/-- pairs of which the second is of the kind b -/
def Pk (b : Bool) : Type := { q : Int × Sc // q.2.is b = true }
instance (b : Bool) : DecidableEq (Pk b) := inferInstanceAs (DecidableEq { q : Int × Sc // q.2.is b = true })
def Pk.d {b : Bool} (q : Pk b) : D := .tup [.int q.1.1, q.1.2.d]
def Pk.key {b : Bool} (q : Pk b) : List Int := [q.1.1, q.1.2.k]
def Pk.p {b : Bool} (q : Pk b) : PyData := .tuple [.int q.1.1, q.1.2.p]
def Pk.le {b : Bool} (q r : Pk b) : Bool := decide (q.1.1 < r.1.1 ∨ (q.1.1 = r.1.1 ∧ q.1.2.k ≤ r.1.2.k))
def pkI (i j : Int) : Pk false := ⟨(i, .i j), rfl⟩
def pkB (i : Int) (k : Bool) : Pk true := ⟨(i, .b k), rfl⟩
def unPk : (b : Bool) → D → Option (Pk b)
  | false, .tup [.int i, .int j] => some (pkI i j)
  | true, .tup [.int i, .bl k] => some (pkB i k)
  | _, _ => none
def unPks (b : Bool) : List D → Option (List (Pk b))
  | [] => some []
  | x :: xs => match unPk b x, unPks b xs with
    | some q, some qs => some (q :: qs)
    | _, _ => none
def sortU {b : Bool} (qs : List (Pk b)) : List (Pk b) := qs.eraseDups.mergeSort Pk.le
/-- sorted(set(xs)) -/
def evSset (b : Bool) : D → Option D
  | .lst xs => match unPks b xs with
    | some qs => if qs.length < 64 then some (.lst ((sortU qs).map Pk.d)) else none
    | none => none
  | _ => none
inductive Kd where
  | non | bool | int | str | list | tuple | dict
  deriving DecidableEq
def D.kd : D → Option Kd
  | .non => some .non
  | .bl _ => some .bool
  | .int _ => some .int
  | .str _ => some .str
  | .lst _ => some .list
  | .fz _ => some .list
  | .tup _ => some .tuple
  | .dK _ => some .dict
  | .dT _ => some .dict
  | _ => none
def kdIs : Kd → Ty → Bool
  | .int, .int => true
  | .bool, .int => true
  | .bool, .bool => true
  | .str, .str => true
  | .list, .list => true
  | .tuple, .tuple => true
  | _, _ => false
def evIsi (a : D) (t : Ty) : Option Bool := a.kd.map fun k => kdIs k t
def D.isStr : D → Bool
  | .str _ => true
  | _ => false
def D.isNon : D → Bool
  | .non => true
  | _ => false
/-- what a for or a comprehension walks -/
def items : D → Option (List D)
  | .lst xs => some xs
  | .fz xs => some xs
  | .tup xs => some xs
  | .str s => some (s.cps.toList.map fun c => .str ⟨#[c]⟩)
  | _ => none
def evRng (as : List D) : Option (List D) := match as with
  | [.int j] => if -(2 ^ 62) ≤ j ∧ j ≤ 16777216 then some ((List.range j.toNat).map fun k => .int (k : Nat)) else none
  | [.int i, .int j] => if (-(2 ^ 62) ≤ i ∧ i < 2 ^ 62 ∧ -(2 ^ 62) ≤ j ∧ j < 2 ^ 62) ∧ j - i ≤ 16777216 then some ((List.range (j - i).toNat).map fun k => .int (i + (k : Nat))) else none
  | _ => none
def evZip (a b : D) : Option (List D) := match a, b with
  | .lst xs, .lst ys => some ((xs.zip ys).map fun p => .tup [p.1, p.2])
  | _, _ => none
def evZipA (a b : D) : Option (List D) := match a, b with
  | .lst xs, .lst ys => some ((xs.zip ys).map fun p => .tup [p.1, p.2])
  | .tup xs, .tup ys => some ((xs.zip ys).map fun p => .tup [p.1, p.2])
  | _, _ => none
/-- len(set(xs)), texts -/
def evLset : D → Option D
  | .lst xs => match strs? xs with
    | some ys => if ys.length ≤ 4000 then some (.int (VS.dd ys).length) else none
    | none => none
  | _ => none
def evDin (es : List (Str × Int)) : D → Option D
  | .str z => some (.bl (es.lookup z).isSome)
  | _ => none
def evDix (es : List (Str × Int)) : D → Option D
  | .str z => (es.lookup z).map .int
  | _ => none
def evDget (es : List (Str × Int)) : D → D → Option D
  | .str z, y => some (match es.lookup z with
    | some v => .int v
    | none => y)
  | _, _ => none
def evEnum (a : D) : Option (List D) := match a with
  | .lst xs => some (xs.zipIdx.map fun p => .tup [.int (p.2 : Nat), p.1])
  | _ => none
mutual
def Tg.set : Tg → D → Env → Option Env
  | .n i, d, env => some (env.set i (some d))
  | .t ts, .tup ds, env => Tg.sets ts ds env
  | .t _, _, _ => none
def Tg.sets : List Tg → List D → Env → Option Env
  | [], [], env => some env
  | g :: ts, d :: ds, env => match Tg.set g d env with
    | some env' => Tg.sets ts ds env'
    | none => none
  | _, _, _ => none
end
mutual
def Tg.slots : Tg → List Nat
  | .n i => [i]
  | .t ts => Tg.slotss ts
def Tg.slotss : List Tg → List Nat
  | [] => []
  | g :: ts => Tg.slots g ++ Tg.slotss ts
end
def wipeE (env : Env) : List Nat → Env
  | [] => env
  | i :: is => (wipeE env is).set i none
/-- a comprehension's items, one after another -/
def compL (f : D → Sto → Res (Option D)) : List D → Sto → Res (List D)
  | [], S => .ok [] S
  | d :: ds, S => (f d S).bind fun o S => (compL f ds S).bind fun r S => .ok (match o with
    | some y => y :: r
    | none => r) S
def forL (f : D → Env → Sto → Out) : List D → Env → Sto → Out
  | [], env, S => .nx env S
  | d :: ds, env, S => (f d env S).andThen fun env S => forL f ds env S
def whileL (c : Env → Sto → Res Bool) (f : Env → Sto → Out) : Nat → Env → Sto → Out
  | 0, _, _ => .err
  | n + 1, env, S => (c env S).outs env fun b S => if b then (f env S).andThen fun env S => whileL c f n env S else .nx env S
def D.isMut : D → Bool
  | .lst _ => true
  | .dK _ => true
  | .dT _ => true
  | _ => false
/-- the fields of an instance of the class c in the slot i -/
def insOf (env : Env) (S : Sto) (c i : Nat) : Option (Nat × List (Str × D)) := match env[i]? with
  | some (some (.obj n)) => match S[n]? with
    | some (.ins c' fs) => if c' = c then some (n, fs) else none
    | _ => none
  | _ => none
def fldOf (env : Env) (S : Sto) (c i : Nat) (x : Str) : Option D := (insOf env S c i).bind fun q => q.2.lookup x
def putD (f : Str) (d : D) : List (Str × D) → List (Str × D)
  | [] => [(f, d)]
  | (g, x) :: r => if g = f then (g, d) :: r else (g, x) :: putD f d r
/-- what is told of a thing that is walked, without a change -/
def projT : T → Bool
  | .v _ => true
  | .ix (.v _) (.int _) => true
  | _ => false
/-- many turns of a while -/
def turns : Nat := 2 ^ 40
def tru (d : D) (S : Sto) : Res Bool := lift d.tru S

structure Glob where
  gl : List D
section
variable (gl : List D) (rc : Nat → List D → Sto → Res D)
mutual
def evE : T → Env → Sto → Res D
  | .non, _, S => .ok .non S
  | .bl b, _, S => .ok (.bl b) S
  | .int i, _, S => .ok (.int i) S
  | .str s, _, S => .ok (.str s) S
  | .v i, env, S => match env[i]? with
    | some (some d) => .ok d S
    | _ => .err
  | .g k, _, S => lift gl[k]? S
  | .bin o a b, env, S => (evE a env S).bind fun x S => (evE b env S).bind fun y S => lift (evBin o x y) S
  | .neg a, env, S => (evE a env S).bind fun x S => match x with
    | .int i => .ok (.int (-i)) S
    | _ => .err
  | .no a, env, S => (evE a env S).bind fun x S => (tru x S).bind fun b S => .ok (.bl (!b)) S
  | .cmp c a b, env, S => (evE a env S).bind fun x S => (evE b env S).bind fun y S => (lift (evCmp c x y) S).bind fun b S => .ok (.bl b) S
  | .isN a, env, S => (evE a env S).bind fun x S => .ok (.bl x.isNon) S
  | .notN a, env, S => (evE a env S).bind fun x S => .ok (.bl !x.isNon) S
  | .isB a c, env, S => (evE a env S).bind fun x S => match x with
    | .bl b => .ok (.bl (decide (b = c))) S
    | _ => .err
  | .notB a c, env, S => (evE a env S).bind fun x S => match x with
    | .bl b => .ok (.bl (!decide (b = c))) S
    | _ => .err
  | .chn c c' a b e, env, S => (evE a env S).bind fun x S => (evE b env S).bind fun y S => (lift (evCmp c x y) S).bind fun k S =>
    if k then (evE e env S).bind fun z S => (lift (evCmp c' y z) S).bind fun k S => .ok (.bl k) S else .ok (.bl false) S
  | .an ts, env, S => evAn ts env S
  | .orr ts, env, S => evOr ts env S
  | .ite c a b, env, S => (evE c env S).bind fun x S => (tru x S).bind fun k S => if k then evE a env S else evE b env S
  | .tup ts, env, S => (evEs ts env S).bind fun xs S => .ok (.tup xs) S
  | .lst ts, env, S => (evEs ts env S).bind fun xs S => .ok (.lst xs) S
  | .box ts, env, S => (evEs ts env S).bind fun xs S => .ok (.obj S.length) (S ++ [.box (.lst xs)])
  | .ix a i, env, S => (evE a env S).bind fun x S => (evE i env S).bind fun y S => match x with
    | .obj n => match S[n]? with
      | some (.box d) => lift (evIx d y) S
      | _ => .err
    | x => lift (evIx x y) S
  | .sl a lo hi, env, S => (evE a env S).bind fun x S => ((evE lo env S).bind fun l S => lift (slB (isNon lo) l) S).bind fun l S => ((evE hi env S).bind fun h S => lift (slB (isNon hi) h) S).bind fun h S => lift (evSl x l h) S
  | .rev a, env, S => (evE a env S).bind fun x S => lift (evRev x) S
  | .call f ts, env, S => (evEs ts env S).bind fun xs S => rc f xs S
  | .bi b ts, env, S => (evEs ts env S).bind fun xs S => lift (evBi b xs) S
  | .isi a t, env, S => (evE a env S).bind fun x S => lift ((evIsi x t).map .bl) S
  | .me m a ts, env, S => (evE a env S).bind fun x S => if x.isStr then (evEs ts env S).bind fun xs S => lift (evMe m x xs) S else .err
  | .comp e tg it cs, env, S => ((evE it env S).bind fun x S => lift (items x) S).bind fun ds S => (compL (fun d S => match Tg.set tg d (wipeE env tg.slots) with
      | some env' => ((evCs cs env' S).bind fun k S => if k then (evE e env' S).bind fun y S => .ok (some y) S else .ok none S).noexc
      | none => .err) ds S).bind fun r S => .ok (.lst r) S
  | .rng ts, env, S => (evEs ts env S).bind fun xs S => lift ((evRng xs).map .lst) S
  | .zip a b, env, S => (evE a env S).bind fun x S => (evE b env S).bind fun y S => lift ((evZipA x y).map .lst) S
  | .enum a, env, S => (evE a env S).bind fun x S => lift ((evEnum x).map .lst) S
  | .fld c i x, env, S => match fldOf env S c i x with
    | some d => if d.isMut = true then .err else .ok d S
    | none => .err
  | .flen c i x, env, S => match fldOf env S c i x with
    | some (.lst xs) => .ok (.int xs.length) S
    | _ => .err
  | .fne c i x, env, S => match fldOf env S c i x with
    | some (.lst xs) => (lift (evCmp .ne (.lst xs) (.lst [])) S).bind fun b S => .ok (.bl b) S
    | _ => .err
  | .fix c i x k, env, S => match fldOf env S c i x with
    | some (.lst xs) => lift (atI xs k) S
    | _ => .err
  | .ftup c i x, env, S => match fldOf env S c i x with
    | some (.lst xs) => .ok (.tup xs) S
    | _ => .err
  | .fcomp c i x tg e, env, S => match fldOf env S c i x with
    | some (.lst xs) => (compL (fun d S => match Tg.set tg d (wipeE env tg.slots) with
      | some env' => (evE e env' S).bind fun y S => .ok (some y) S
      | none => .err) xs S).bind fun r S => .ok (.lst r) S
    | _ => .err
  | .new c f ts, env, S => (evEs ts env S).bind fun xs S => (rc f (.obj S.length :: xs) (S ++ [.ins c []])).bind fun d S' => match d with
    | .non => .ok (.obj S.length) S'
    | _ => .err
  | .mcall c f i m ts, env, S => match insOf env S c i with
    | some (n, fs) => if fs.lookup m = none then (evEs ts env S).bind fun xs S => rc f (.obj n :: xs) S else .err
    | none => .err
  | .bad, _, _ => .err
  | .din _ es a, env, S => (evE a env S).bind fun x S => lift (evDin es x) S
  | .dix _ es a, env, S => (evE a env S).bind fun x S => lift (evDix es x) S
  | .dget _ es a b, env, S => (evE a env S).bind fun x S => (evE b env S).bind fun y S => lift (evDget es x y) S
  | .lset a, env, S => (evE a env S).bind fun x S => lift (evLset x) S
  | .sset b a, env, S => (evE a env S).bind fun x S => lift (evSset b x) S
  | .tzip a b, env, S => (evE a env S).bind fun x S => (evE b env S).bind fun y S => lift ((evZip x y).map .tup) S
/-- a and b and .. as a value -/
def evAn : List T → Env → Sto → Res D
  | [], _, _ => .err
  | [a], env, S => evE a env S
  | a :: ts, env, S => (evE a env S).bind fun x S => match x with
    | .bl true => evAn ts env S
    | .bl false => .ok (.bl false) S
    | _ => .err
def evOr : List T → Env → Sto → Res D
  | [], _, _ => .err
  | [a], env, S => evE a env S
  | a :: ts, env, S => (evE a env S).bind fun x S => match x with
    | .bl true => .ok (.bl true) S
    | .bl false => evOr ts env S
    | _ => .err
def evEs : List T → Env → Sto → Res (List D)
  | [], _, S => .ok [] S
  | a :: ts, env, S => (evE a env S).bind fun x S => (evEs ts env S).bind fun xs S => .ok (x :: xs) S
/-- all the tests of a comprehension -/
def evCs : List T → Env → Sto → Res Bool
  | [], _, S => .ok true S
  | a :: ts, env, S => (evE a env S).bind fun x S => (tru x S).bind fun k S => if k then evCs ts env S else .ok false S
end
/-- what is walked -/
def evIt (t : T) (env : Env) (S : Sto) : Res (List D) := (evE gl rc t env S).bind fun x S => lift (items x) S
mutual
def evS : St → Env → Sto → Out
  | .asg i e, env, S => (evE gl rc e env S).outs env fun d S => .nx (env.set i (some d)) S
  | .asgT tg e, env, S => (evE gl rc e env S).outs env fun d S => match Tg.set tg d env with
    | some env => .nx env S
    | none => .err
  | .par is es, env, S => (evEs gl rc es env S).outs env fun ds S => match Tg.sets (is.map .n) ds env with
    | some env => .nx env S
    | none => .err
  | .expr e, env, S => (evE gl rc e env S).outs env fun _ S => .nx env S
  | .app i e, env, S => match env[i]? with
    | some (some (.lst xs)) => (evE gl rc e env S).outs env fun d S => if xs.length < sizeLine then .nx (env.set i (some (.lst (xs ++ [d])))) S else .err
    | _ => .err
  | .extd i e, env, S => match env[i]? with
    | some (some (.lst xs)) => (evE gl rc e env S).outs env fun d S => match d with
      | .lst ys => if xs.length + ys.length ≤ sizeLine then .nx (env.set i (some (.lst (xs ++ ys)))) S else .err
      | _ => .err
    | _ => .err
  | .insr i a e, env, S => match env[i]? with
    | some (some (.lst xs)) => (evE gl rc a env S).outs env fun k S => (evE gl rc e env S).outs env fun d S => match k with
      | .int k => if xs.length < sizeLine ∧ 0 ≤ k ∧ k < 2 ^ 63 then .nx (env.set i (some (.lst (xs.take k.toNat ++ [d] ++ xs.drop k.toNat)))) S else .err
      | _ => .err
    | _ => .err
  | .setI i k e, env, S => (evE gl rc e env S).outs env fun d S => match env[i]? with
    | some (some (.lst xs)) => (evE gl rc k env S).outs env fun k S => match k with
      | .int k => match ixN xs.length k with
        | some j => .nx (env.set i (some (.lst (xs.set j d)))) S
        | none => .err
      | _ => .err
    | _ => .err
  | .bset b k e, env, S => (evE gl rc e env S).outs env fun d S => (evE gl rc b env S).outs env fun o S => (evE gl rc k env S).outs env fun k S => match o, k with
    | .obj n, .int k => match S[n]? with
      | some (.box (.lst xs)) => match ixN xs.length k with
        | some j => .nx env (S.set n (.box (.lst (xs.set j d))))
        | none => .err
      | _ => .err
    | _, _ => .err
  | .fset c i x fr e, env, S => (evE gl rc e env S).outs env fun d S => if d.isMut = true ∧ fr = false then .err else match insOf env S c i with
    | some (n, fs) => if fs.length < 900 then .nx env (S.set n (.ins c (putD x d fs))) else .err
    | none => .err
  | .fapp c i x j, env, S => match env[j]? with
    | some (some d) => match insOf env S c i with
      | some (n, fs) => match fs.lookup x with
        | some (.lst xs) => if xs.length < sizeLine then .nx env (S.set n (.ins c (putD x (.lst (xs ++ [d])) fs))) else .err
        | _ => .err
      | none => .err
    | _ => .err
  | .bad, _, _ => .err
  | .aug i sb e, env, S => match env[i]? with
    | some (some (.int a)) => (evE gl rc e env S).outs env fun y S => match y with
      | .int b => .nx (env.set i (some (.int (if sb then a - b else a + b)))) S
      | _ => .err
    | _ => .err
  | .iff c a b, env, S => (evE gl rc c env S).outs env fun x S => (tru x S).outs env fun k S => if k then evSs a env S else evSs b env S
  | .forr tg it b, env, S => (evIt gl rc it env S).outs env fun ds S => forL (fun d env S => match Tg.set tg d env with
    | some env => evSs b env S
    | none => .err) ds env S
  | .whil c b, env, S => whileL (fun env S => (evE gl rc c env S).bind fun x S => tru x S) (fun env S => evSs b env S) turns env S
  | .ret e, env, S => (evE gl rc e env S).outs env fun d S => .rt d S
  | .retN, _, S => .rt .non S
  | .pass, env, S => .nx env S
  | .frz _, env, S => .nx env S
def evSs : List St → Env → Sto → Out
  | [], env, S => .nx env S
  | s :: r, env, S => (evS s env S).andThen fun env S => evSs r env S
end
end
/-- a def -/
structure Fn where
  np : Nat
  nl : Nat
  fresh : Bool
  body : List St
structure Prog where
  gl : List D
  fns : List Fn
def startE (n : Nat) (ds : List D) : Env := ds.map some ++ List.replicate (n - ds.length) none
def endRun : Out → Res D
  | .nx _ S => .ok .non S
  | .rt d S => .ok d S
  | .exc x _ S => .exc x S
  | .err => .err
def run (P : Prog) : Nat → Nat → List D → Sto → Res D
  | 0, _, _, _ => .err
  | n + 1, f, ds, S => match P.fns[f]? with
    | some F => if ds.length = F.np then
        endRun (evSs P.gl (run P n) F.body (startE F.nl ds) S)
      else .err
    | none => .err
end VE

set_option Elab.async false
set_option linter.all false
set_option maxRecDepth 100000
set_option maxHeartbeats 4000000
/-! VE, part 3: how a state of the evaluator lies in a state of the machine. -/
namespace VE
open PySem PySem.Spec PyProof.Rows L2

/-- what has stayed from (g, H) to (g', H') -/
structure Fr (g : Gh) (H : Hp) (g' : Gh) (H' : Hp) : Prop where
  le : GhLe g g'
  keep : ∀ a x, H a = some x → ¬ g.fp a → H' a = some x
  dom : ∀ a, H a ≠ none → H' a ≠ none
  fpn : ∀ a, g'.fp a → g.fp a ∨ H a = none
  gn : ∀ a, g'.G a ≠ none → g.G a ≠ none ∨ H a = none
theorem Fr.refl (g : Gh) (H : Hp) : Fr g H g H := ⟨GhLe.refl g, fun _ _ h _ => h, fun _ h => h, fun _ h => .inl h, fun _ h => .inl h⟩
theorem Fr.trans {g1 g2 g3 : Gh} {H1 H2 H3 : Hp} (a : Fr g1 H1 g2 H2) (b : Fr g2 H2 g3 H3) : Fr g1 H1 g3 H3 where
  le := a.le.trans b.le
  keep := fun c x h n => b.keep c x (a.keep c x h n) fun z => by
    rcases a.fpn c z with q | q
    · exact n q
    · rw [h] at q
      cases q
  dom := fun c h => b.dom c (a.dom c h)
  fpn := fun c z => by
    rcases b.fpn c z with q | q
    · exact a.fpn c q
    · refine .inr ?_
      cases e : H1 c with
      | none => rfl
      | some x => exact absurd q (a.dom c (by rw [e]; simp))
  gn := fun c z => by
    rcases b.gn c z with q | q
    · exact a.gn c q
    · refine .inr ?_
      cases e : H1 c with
      | none => rfl
      | some x => exact absurd q (a.dom c (by rw [e]; simp))
/-- the heap has grown, nothing else -/
theorem Fr.grow {g : Gh} {H H' : Hp} (s : Same H H') : Fr g H g H' :=
  ⟨GhLe.refl g, fun _ _ h _ => s _ _ h, fun a h => by
    cases e : H a with
    | none => exact absurd e h
    | some x => rw [s _ _ e]; simp, fun _ h => .inl h, fun _ h => .inl h⟩

section
variable (K : PySem.W.Frag) (ca : Nat → Addr)
/-- a list, a dict at a -/
def Holds (g : Gh) (H : Hp) (a : Addr) (d : D) : Prop := match d with
  | .lst ds => ∃ vs, H a = some (.lst vs) ∧ vs.length ≤ sizeLine ∧ Reps K ca g vs ds
  | .dK es => ∃ kvs, H a = some (.dK kvs) ∧ kvs.map (·.1) = es.map (·.1) ∧ Reps K ca g (kvs.map (·.2)) (es.map (·.2))
  | .dT es => ∃ kvs, H a = some (.dT kvs) ∧ kvs.map (·.1) = es.map (·.1) ∧ Reps K ca g (kvs.map (·.2)) (es.map (·.2))
  | _ => False
/-- an instance's fields: a list among them is its own -/
inductive Flds (g : Gh) (H : Hp) : List Addr → List (Str × V) → List (Str × D) → Prop
  | nil : Flds g H [] [] []
  | imm {x : Str} {v : V} {d : D} {ls : List Addr} {fv : List (Str × V)} {fs : List (Str × D)} : d.isMut = false → Rep K ca g v d → Flds g H ls fv fs → Flds g H ls ((x, v) :: fv) ((x, d) :: fs)
  | own {x : Str} {l : Addr} {d : D} {ls : List Addr} {fv : List (Str × V)} {fs : List (Str × D)} : Holds K ca g H l d → Flds g H ls fv fs → Flds g H (l :: ls) ((x, .ref l) :: fv) ((x, d) :: fs)
def CellOk (g : Gh) (H : Hp) (as : List Addr) (c : Cell) : Prop := match c with
  | .box d => ∃ a, as = [a] ∧ Holds K ca g H a d
  | .ins c fs => ∃ a dx ls fv, as = a :: dx :: ls ∧ H a = some (.ins (ca c) dx fv) ∧ H dx = some (.own a) ∧ Flds K ca g H ls fv fs
structure Bs (g : Gh) (S : Sto) (H : Hp) : Prop where
  sub : Same g.G H
  off : ∀ a, g.fp a → g.G a = none
  len : g.A.length = S.length
  cell : ∀ (n : Nat) (as : List Addr) (c : Cell), g.A[n]? = some as → S[n]? = some c → CellOk K ca g H as c
  nd : g.A.flatten.Nodup
/-- a slot that is owned -/
def OwnD (H0 : Hp) (g : Gh) (H : Hp) (v : V) (d : D) : Prop := ∃ a, v = .ref a ∧ H0 a = none ∧ g.G a = none ∧ ¬ g.fp a ∧ Holds K ca g H a d
def own (o : List Bool) (i : Nat) : Bool := o.getD i false
def SlotOk (H0 : Hp) (o : List Bool) (g : Gh) (H : Hp) (i : Nat) (v : V) (d : D) : Prop :=
  if (own o i && d.isMut) = true then OwnD K ca H0 g H v d else Rep K ca g v d
structure SR (g0 : Gh) (H0 : Hp) (o : List Bool) (g : Gh) (env : Env) (S : Sto) (σ : L2.St) (H : Hp) : Prop where
  bs : Bs K ca g S H
  fr : Fr g0 H0 g H
  len : env.length = σ.length
  slot : ∀ i d, env[i]? = some (some d) → ∃ v, σ[i]? = some (some v) ∧ SlotOk K ca H0 o g H i v d
  dist : ∀ i j di dj a, i ≠ j → env[i]? = some (some di) → env[j]? = some (some dj) → (own o i && di.isMut) = true → (own o j && dj.isMut) = true → σ[i]? = some (some (.ref a)) → σ[j]? = some (some (.ref a)) → False
/-- a value that may be read now: frozen, or an owned list -/
def RepH (g : Gh) (H : Hp) (v : V) (d : D) : Prop := Rep K ca g v d ∨ ∃ a, v = .ref a ∧ ¬ g.fp a ∧ Holds K ca g H a d
/-- a new value, from the heap H on -/
def NewD (H : Hp) (g' : Gh) (H' : Hp) (v : V) (d : D) : Prop := if d.isMut = true then ∃ a, v = .ref a ∧ H a = none ∧ g'.G a = none ∧ ¬ g'.fp a ∧ Holds K ca g' H' a d else Rep K ca g' v d
end

section
variable {K : PySem.W.Frag} {ca : Nat → Addr} {g g' g0 : Gh} {H H' H0 : Hp} {o : List Bool} {env : Env} {S : Sto} {σ : L2.St} {v : V} {d : D} {a : Addr}
theorem Holds.mono (l : GhLe g g') (e : H' a = H a) (h : Holds K ca g H a d) : Holds K ca g' H' a d := by
  cases d with
  | lst ds =>
    obtain ⟨vs, h1, h2, h3⟩ := h
    exact ⟨vs, by rw [e]; exact h1, h2, h3.mono l⟩
  | dK ds =>
    obtain ⟨vs, h1, h2, h3⟩ := h
    exact ⟨vs, by rw [e]; exact h1, h2, h3.mono l⟩
  | dT ds =>
    obtain ⟨vs, h1, h2, h3⟩ := h
    exact ⟨vs, by rw [e]; exact h1, h2, h3.mono l⟩
  | _ => exact h.elim
theorem Holds.there (h : Holds K ca g H a d) : ∃ x, H a = some x := by
  cases d with
  | lst ds =>
    obtain ⟨vs, h1, _⟩ := h
    exact ⟨_, h1⟩
  | dK ds =>
    obtain ⟨vs, h1, _⟩ := h
    exact ⟨_, h1⟩
  | dT ds =>
    obtain ⟨vs, h1, _⟩ := h
    exact ⟨_, h1⟩
  | _ => exact h.elim
theorem Holds.isMut (h : Holds K ca g H a d) : d.isMut = true := by
  cases d <;> first | rfl | exact h.elim
theorem Holds.fr (f : Fr g H g' H') (nf : ¬ g.fp a) (h : Holds K ca g H a d) : Holds K ca g' H' a d := by
  obtain ⟨x, e⟩ := h.there
  exact h.mono f.le (by rw [e, f.keep a x e nf])
theorem Fr.nfp (f : Fr g H g' H') {x : HO} (e : H a = some x) (nf : ¬ g.fp a) : ¬ g'.fp a := fun z => by
  rcases f.fpn a z with q | q
  · exact nf q
  · rw [e] at q
    cases q
theorem RepH.fr (f : Fr g H g' H') (h : RepH K ca g H v d) : RepH K ca g' H' v d := by
  rcases h with h | ⟨a, e, nf, h⟩
  · exact .inl (h.mono f.le)
  · obtain ⟨x, q⟩ := h.there
    exact .inr ⟨a, e, f.nfp q nf, h.fr f nf⟩
/-- what is frozen holds -/
theorem Rep.holds (s : Same g.G H) (nf : ∀ a, g.fp a → g.G a = none) (hm : d.isMut = true) (h : Rep K ca g v d) (hl : ∀ ds, d = .lst ds → ∀ a, v = .ref a → ∃ vs, g.G a = some (.lst vs)) : True := trivial
/-- a list is frozen: it is told as it is from now on -/
def Gh.frz (g : Gh) (H : Hp) (a : Addr) : Gh := { g with G := fun b => if b = a then H a else g.G b }
theorem Gh.frz_fp (g : Gh) (H : Hp) (a : Addr) : (g.frz H a).fp = g.fp := rfl
theorem Gh.frz_le (n : g.G a = none) : GhLe g (g.frz H a) := ⟨fun b x e => by
  show (if b = a then H a else g.G b) = some x
  by_cases z : b = a
  · rw [z, n] at e
    cases e
  · rw [if_neg z]
    exact e, fun _ _ h => h⟩
theorem Gh.frz_same (s : Same g.G H) : Same (g.frz H a).G H := fun b x e => by
  have e : (if b = a then H a else g.G b) = some x := e
  by_cases z : b = a
  · rw [if_pos z] at e
    rw [z]
    exact e
  · rw [if_neg z] at e
    exact s _ _ e
theorem Flds.mono (l : GhLe g g') {ls : List Addr} {fv : List (Str × V)} {fs : List (Str × D)} (h : Flds K ca g H ls fv fs) : (∀ b ∈ ls, H' b = H b) → Flds K ca g' H' ls fv fs := by
  induction h with
  | nil => exact fun _ => .nil
  | imm z r _ ih => exact fun e => .imm z (r.mono l) (ih e)
  | own r _ ih => exact fun e => .own (r.mono l (e _ List.mem_cons_self)) (ih fun b hb => e b (List.mem_cons_of_mem _ hb))
theorem Flds.there {ls : List Addr} {fv : List (Str × V)} {fs : List (Str × D)} (h : Flds K ca g H ls fv fs) : ∀ b ∈ ls, ∃ x, H b = some x := by
  induction h with
  | nil => exact fun _ z => nomatch z
  | imm _ _ _ ih => exact ih
  | own r _ ih =>
    intro b hb
    rcases List.mem_cons.mp hb with e | hb
    · rw [e]
      exact r.there
    · exact ih b hb
theorem CellOk.there {as : List Addr} {c : Cell} (h : CellOk K ca g H as c) : ∀ b ∈ as, ∃ x, H b = some x := by
  cases c with
  | box d =>
    obtain ⟨a, rfl, h⟩ := h
    intro b hb
    rw [List.mem_singleton.mp hb]
    exact h.there
  | ins c fs =>
    obtain ⟨a, dx, ls, fv, rfl, h1, h2, h3⟩ := h
    intro b hb
    rcases List.mem_cons.mp hb with e | hb
    · rw [e]
      exact ⟨_, h1⟩
    · rcases List.mem_cons.mp hb with e | hb
      · rw [e]
        exact ⟨_, h2⟩
      · exact h3.there b hb
theorem CellOk.mono {as : List Addr} {c : Cell} (l : GhLe g g') (e : ∀ b ∈ as, H' b = H b) (h : CellOk K ca g H as c) : CellOk K ca g' H' as c := by
  cases c with
  | box d =>
    obtain ⟨a, rfl, h⟩ := h
    exact ⟨a, rfl, h.mono l (e a (by simp))⟩
  | ins c fs =>
    obtain ⟨a, dx, ls, fv, rfl, h1, h2, h3⟩ := h
    exact ⟨a, dx, ls, fv, rfl, by rw [e a (by simp)]; exact h1, by rw [e dx (by simp)]; exact h2, h3.mono l fun b hb => e b (List.mem_cons_of_mem _ (List.mem_cons_of_mem _ hb))⟩
theorem Bs.frz (b : Bs K ca g S H) (n : g.G a = none) (nf : ¬ g.fp a) : Bs K ca (g.frz H a) S H where
  sub := Gh.frz_same b.sub
  off := fun c h => by
    show (if c = a then H a else g.G c) = none
    rw [if_neg (fun z : c = a => nf (by rw [← z]; exact h))]
    exact b.off c h
  len := b.len
  cell := fun n as c h1 h2 => (b.cell n as c h1 h2).mono (Gh.frz_le ‹_›) fun _ _ => rfl
  nd := b.nd
theorem Fr.frz (f : Fr g0 H0 g H) (n : g.G a = none) (z : H0 a = none) : Fr g0 H0 (g.frz H a) H where
  le := f.le.trans (Gh.frz_le n)
  keep := f.keep
  dom := f.dom
  fpn := f.fpn
  gn := fun c h => by
    have h : (if c = a then H a else g.G c) ≠ none := h
    by_cases q : c = a
    · exact .inr (by rw [q]; exact z)
    · rw [if_neg q] at h
      exact f.gn c h
theorem Holds.rep_frz (n : g.G a = none) (h : Holds K ca g H a d) : Rep K ca (g.frz H a) (.ref a) d := by
  have e : (g.frz H a).G a = H a := if_pos rfl
  have l : GhLe g (g.frz H a) := Gh.frz_le n
  cases d with
  | lst ds =>
    obtain ⟨vs, h1, h2, h3⟩ := h
    exact .lst (by rw [e]; exact h1) h2 (h3.mono l)
  | dK ds =>
    obtain ⟨vs, h1, h2, h3⟩ := h
    exact .dK (by rw [e]; exact h1) h2 (h3.mono l)
  | dT ds =>
    obtain ⟨vs, h1, h2, h3⟩ := h
    exact .dT (by rw [e]; exact h1) h2 (h3.mono l)
  | _ => exact h.elim
theorem OwnD.frz_other {b : Addr} (h : OwnD K ca H0 g H v d) (n : g.G b = none) (ne : v ≠ .ref b) : OwnD K ca H0 (g.frz H b) H v d := by
  obtain ⟨a, rfl, h0, h1, h2, h3⟩ := h
  refine ⟨a, rfl, h0, ?_, h2, h3.mono (Gh.frz_le n) rfl⟩
  show (if a = b then H b else g.G a) = none
  rw [if_neg (fun z => ne (by rw [z]))]
  exact h1
theorem OwnD.fr (f : Fr g H g' H') (h : OwnD K ca H0 g H v d) : OwnD K ca H0 g' H' v d := by
  obtain ⟨a, rfl, h0, h1, h2, h3⟩ := h
  obtain ⟨x, e⟩ := h3.there
  refine ⟨a, rfl, h0, ?_, f.nfp e h2, h3.fr f h2⟩
  cases q : g'.G a with
  | none => rfl
  | some y =>
    rcases f.gn a (by rw [q]; simp) with z | z
    · exact absurd h1 z
    · rw [e] at z
      cases z
theorem SlotOk.fr {i : Nat} (f : Fr g H g' H') (h : SlotOk K ca H0 o g H i v d) : SlotOk K ca H0 o g' H' i v d := by
  unfold SlotOk at h ⊢
  by_cases z : (own o i && d.isMut) = true
  · rw [if_pos z] at h ⊢
    exact OwnD.fr f h
  · rw [if_neg z] at h ⊢
    exact h.mono f.le
/-- the state behind an evaluation -/
theorem SR.next {S' : Sto} (r : SR K ca g0 H0 o g env S σ H) (f : Fr g H g' H') (b : Bs K ca g' S' H') : SR K ca g0 H0 o g' env S' σ H' where
  bs := b
  fr := r.fr.trans f
  len := r.len
  slot := fun i d e => by
    obtain ⟨v, h1, h2⟩ := r.slot i d e
    exact ⟨v, h1, h2.fr f⟩
  dist := r.dist
theorem Bs.grow (b : Bs K ca g S H) (s : Same H H') : Bs K ca g S H' where
  sub := b.sub.trans s
  off := b.off
  len := b.len
  cell := fun n as c h1 h2 => (b.cell n as c h1 h2).mono (GhLe.refl g) fun d hd => by
    obtain ⟨x, e⟩ := (b.cell n as c h1 h2).there d hd
    rw [e, s _ _ e]
  nd := b.nd
theorem SR.grow (r : SR K ca g0 H0 o g env S σ H) (s : Same H H') : SR K ca g0 H0 o g env S σ H' := r.next (Fr.grow s) (r.bs.grow s)
theorem same_upd {p : Addr} {x : HO} (h : H p = none) : Same H (upd H p x) := fun b y e => by
  rw [upd_ne (ne_of_none e h)]
  exact e
theorem Gh.G_none (s : Same g.G H) (h : H a = none) : g.G a = none := by
  cases e : g.G a with
  | none => rfl
  | some x =>
    rw [s _ _ e] at h
    cases h
theorem Gh.fp_there (b : Bs K ca g S H) (h : g.fp a) : ∃ x, H a = some x := by
  obtain ⟨l, hl, ha⟩ := h
  obtain ⟨n, hn⟩ := List.mem_iff_getElem?.mp hl
  have hlt : n < g.A.length := (List.getElem?_eq_some_iff.mp hn).1
  rw [b.len] at hlt
  exact (b.cell n l _ hn (List.getElem?_eq_getElem hlt)).there a ha
theorem Gh.nfp_new (b : Bs K ca g S H) (h : H a = none) : ¬ g.fp a := fun z => by
  obtain ⟨x, e⟩ := Gh.fp_there b z
  rw [h] at e
  cases e
theorem NewD.mut {g' : Gh} (h : d.isMut = true) : NewD K ca H g' H' v d = ∃ a, v = .ref a ∧ H a = none ∧ g'.G a = none ∧ ¬ g'.fp a ∧ Holds K ca g' H' a d := by
  unfold NewD
  exact if_pos h
theorem NewD.imm {g' : Gh} (h : d.isMut = false) : NewD K ca H g' H' v d = Rep K ca g' v d := by
  unfold NewD
  rw [h]
  exact if_neg Bool.false_ne_true
/-- a new list -/
theorem NewD.lst {p : Addr} {vs : List V} {ds : List D} (b : Bs K ca g S H') (s : Same H H') (n : H' p = none) (z : vs.length ≤ sizeLine) (r : Reps K ca g vs ds) : NewD K ca H g (upd H' p (.lst vs)) (.ref p) (.lst ds) := by
  rw [NewD.mut rfl]
  exact ⟨p, rfl, s.free n, Gh.G_none b.sub n, Gh.nfp_new b n, vs, upd_same, z, r⟩
theorem SlotOk.own_ {i : Nat} (y : (own o i && d.isMut) = true) : SlotOk K ca H0 o g H i v d = OwnD K ca H0 g H v d := by
  unfold SlotOk
  exact if_pos y
theorem SlotOk.frz_ {i : Nat} (y : (own o i && d.isMut) = false) : SlotOk K ca H0 o g H i v d = Rep K ca g v d := by
  unfold SlotOk
  rw [y]
  exact if_neg Bool.false_ne_true
/-- a new value is frozen -/
theorem NewD.rep {g1 : Gh} {H1 : Hp} {S1 : Sto} (r1 : SR K ca g0 H0 o g1 env S1 σ H1) (f : Fr g1 H1 g' H') (b : Bs K ca g' S H') (h : NewD K ca H1 g' H' v d) :
    ∃ g2, SR K ca g0 H0 o g2 env S σ H' ∧ Fr g1 H1 g2 H' ∧ GhLe g' g2 ∧ Rep K ca g2 v d := by
  cases z : d.isMut with
  | true =>
    rw [NewD.mut z] at h
    obtain ⟨a, rfl, h1, h2, h3, h4⟩ := h
    have f2 : Fr g1 H1 (g'.frz H' a) H' := f.frz h2 h1
    exact ⟨g'.frz H' a, r1.next f2 (b.frz h2 h3), f2, Gh.frz_le h2, h4.rep_frz h2⟩
  | false =>
    rw [NewD.imm z] at h
    exact ⟨g', r1.next f b, f, GhLe.refl g', h⟩
/-- .. is owned -/
theorem NewD.own_ {g1 : Gh} {H1 : Hp} {S1 : Sto} (r1 : SR K ca g0 H0 o g1 env S1 σ H1) (h : NewD K ca H1 g' H' v d) (z : d.isMut = true) : OwnD K ca H0 g' H' v d := by
  rw [NewD.mut z] at h
  obtain ⟨a, rfl, h1, h2, h3, h4⟩ := h
  refine ⟨a, rfl, ?_, h2, h3, h4⟩
  cases q : H0 a with
  | none => rfl
  | some x => exact absurd h1 (r1.fr.dom a (by rw [q]; simp))
/-- an owned slot is frozen -/
theorem SR.freeze (r : SR K ca g0 H0 o g env S σ H) (i : Nat) : ∃ g', GhLe g g' ∧ SR K ca g0 H0 (o.set i false) g' env S σ H := by
  have key : ∀ j, j ≠ i → own (o.set i false) j = own o j := fun j hj => by
    unfold own
    rw [List.getD_eq_getElem?_getD, List.getD_eq_getElem?_getD, List.getElem?_set_ne (Ne.symm hj)]
  have ki : own (o.set i false) i = false := by
    unfold own
    rw [List.getD_eq_getElem?_getD]
    by_cases h : i < o.length
    · rw [List.getElem?_set_self h]
      rfl
    · rw [List.getElem?_eq_none (by rw [List.length_set]; omega)]
      rfl
  have nodist : ∀ k l dk dl a, k ≠ l → env[k]? = some (some dk) → env[l]? = some (some dl) → (own (o.set i false) k && dk.isMut) = true → (own (o.set i false) l && dl.isMut) = true → σ[k]? = some (some (.ref a)) → σ[l]? = some (some (.ref a)) → False :=
    fun k l dk dl a hkl e1 e2 y1 y2 => by
      have hk : k ≠ i := fun z => by
        rw [z, ki] at y1
        cases y1
      have hl : l ≠ i := fun z => by
        rw [z, ki] at y2
        cases y2
      rw [key k hk] at y1
      rw [key l hl] at y2
      exact r.dist k l dk dl a hkl e1 e2 y1 y2
  by_cases hown : ∃ d, env[i]? = some (some d) ∧ (own o i && d.isMut) = true
  · obtain ⟨d, e, y⟩ := hown
    obtain ⟨v, e1, e2⟩ := r.slot i d e
    rw [SlotOk.own_ y] at e2
    obtain ⟨a, rfl, h0, h2, h3, h4⟩ := e2
    refine ⟨g.frz H a, Gh.frz_le h2, r.bs.frz h2 h3, r.fr.frz h2 h0, r.len, fun j dj ej => ?_, nodist⟩
    obtain ⟨w, e3, e4⟩ := r.slot j dj ej
    refine ⟨w, e3, ?_⟩
    by_cases hj : j = i
    · subst hj
      rw [e] at ej
      cases ej
      rw [e1] at e3
      cases e3
      rw [SlotOk.frz_ (by rw [ki]; rfl)]
      exact h4.rep_frz h2
    · cases yj : (own o j && dj.isMut) with
      | true =>
        rw [SlotOk.own_ yj] at e4
        rw [SlotOk.own_ (by rw [key j hj]; exact yj)]
        exact e4.frz_other h2 fun q => r.dist j i dj d a hj ej e yj y (by rw [← q]; exact e3) e1
      | false =>
        rw [SlotOk.frz_ yj] at e4
        rw [SlotOk.frz_ (by rw [key j hj]; exact yj)]
        exact e4.mono (Gh.frz_le h2)
  · refine ⟨g, GhLe.refl g, r.bs, r.fr, r.len, fun j dj ej => ?_, nodist⟩
    obtain ⟨w, e3, e4⟩ := r.slot j dj ej
    refine ⟨w, e3, ?_⟩
    by_cases hj : j = i
    · subst hj
      have yj : (own o j && dj.isMut) = false := by
        cases q : (own o j && dj.isMut) with
        | false => rfl
        | true => exact absurd ⟨dj, ej, q⟩ hown
      rw [SlotOk.frz_ yj] at e4
      rw [SlotOk.frz_ (by rw [ki]; rfl)]
      exact e4
    · unfold SlotOk at e4 ⊢
      rw [key j hj]
      exact e4
/-- several slots are frozen -/
def frzs (o : List Bool) : List Nat → List Bool
  | [] => o
  | i :: is => frzs (o.set i false) is
theorem SR.freezes : ∀ (is : List Nat) {o : List Bool} {g : Gh}, SR K ca g0 H0 o g env S σ H → ∃ g', GhLe g g' ∧ SR K ca g0 H0 (frzs o is) g' env S σ H
  | [], _, g, r => ⟨g, GhLe.refl g, r⟩
  | i :: is, _, _, r => by
    obtain ⟨g1, l1, r1⟩ := r.freeze i
    obtain ⟨g2, l2, r2⟩ := SR.freezes is r1
    exact ⟨g2, l1.trans l2, r2⟩
theorem own_set_ne {i j : Nat} {b : Bool} (h : j ≠ i) : own (o.set i b) j = own o j := by
  unfold own
  rw [List.getD_eq_getElem?_getD, List.getD_eq_getElem?_getD, List.getElem?_set_ne (Ne.symm h)]
theorem own_set_false {i : Nat} : own (o.set i false) i = false := by
  unfold own
  rw [List.getD_eq_getElem?_getD]
  by_cases h : i < o.length
  · rw [List.getElem?_set_self h]
    rfl
  · rw [List.getElem?_eq_none (by rw [List.length_set]; omega)]
    rfl
/-- a frozen value is stored -/
theorem SR.store (r : SR K ca g0 H0 o g env S σ H) (i : Nat) (h : Rep K ca g v d) : SR K ca g0 H0 (o.set i false) g (env.set i (some d)) S (σ.set i (some v)) H where
  bs := r.bs
  fr := r.fr
  len := by rw [List.length_set, List.length_set, r.len]
  slot := fun j dj ej => by
    by_cases hj : j = i
    · subst hj
      have lt : j < env.length := by
        have := (List.getElem?_eq_some_iff.mp ej).1
        rw [List.length_set] at this
        exact this
      rw [List.getElem?_set_self lt] at ej
      cases ej
      refine ⟨v, by rw [List.getElem?_set_self (by rw [← r.len]; exact lt)], ?_⟩
      rw [SlotOk.frz_ (by rw [own_set_false]; rfl)]
      exact h
    · rw [List.getElem?_set_ne (Ne.symm hj)] at ej
      obtain ⟨w, e1, e2⟩ := r.slot j dj ej
      refine ⟨w, by rw [List.getElem?_set_ne (Ne.symm hj)]; exact e1, ?_⟩
      unfold SlotOk at e2 ⊢
      rw [own_set_ne hj]
      exact e2
  dist := fun k l dk dl a hkl e1 e2 y1 y2 s1 s2 => by
    have hk : k ≠ i := fun z => by
      rw [z, own_set_false] at y1
      cases y1
    have hl : l ≠ i := fun z => by
      rw [z, own_set_false] at y2
      cases y2
    rw [own_set_ne hk] at y1
    rw [own_set_ne hl] at y2
    rw [List.getElem?_set_ne (Ne.symm hk)] at e1 s1
    rw [List.getElem?_set_ne (Ne.symm hl)] at e2 s2
    exact r.dist k l dk dl a hkl e1 e2 y1 y2 s1 s2
/-- an owned value is stored -/
theorem SR.storeOwn (r : SR K ca g0 H0 o g env S σ H) (i : Nat) (h : d.isMut = true → OwnD K ca H0 g H v d) (hf : d.isMut = false → Rep K ca g v d)
    (hd : d.isMut = true → ∀ j dj, j ≠ i → env[j]? = some (some dj) → (own o j && dj.isMut) = true → σ[j]? = some (some v) → False) (lo : i < o.length) : SR K ca g0 H0 (o.set i true) g (env.set i (some d)) S (σ.set i (some v)) H where
  bs := r.bs
  fr := r.fr
  len := by rw [List.length_set, List.length_set, r.len]
  slot := fun j dj ej => by
    by_cases hj : j = i
    · subst hj
      have lt : j < env.length := by
        have := (List.getElem?_eq_some_iff.mp ej).1
        rw [List.length_set] at this
        exact this
      rw [List.getElem?_set_self lt] at ej
      cases ej
      refine ⟨v, by rw [List.getElem?_set_self (by rw [← r.len]; exact lt)], ?_⟩
      have o1 : own (o.set j true) j = true := by
        unfold own
        rw [List.getD_eq_getElem?_getD, List.getElem?_set_self lo]
        rfl
      cases z : d.isMut with
      | true =>
        rw [SlotOk.own_ (by rw [o1, z]; rfl)]
        exact h z
      | false =>
        rw [SlotOk.frz_ (by rw [o1, z]; rfl)]
        exact hf z
    · rw [List.getElem?_set_ne (Ne.symm hj)] at ej
      obtain ⟨w, e1, e2⟩ := r.slot j dj ej
      refine ⟨w, by rw [List.getElem?_set_ne (Ne.symm hj)]; exact e1, ?_⟩
      unfold SlotOk at e2 ⊢
      rw [own_set_ne hj]
      exact e2
  dist := fun k l dk dl a hkl e1 e2 y1 y2 s1 s2 => by
    have side : ∀ k l dk dl, k = i → k ≠ l → (env.set i (some d))[k]? = some (some dk) → (env.set i (some d))[l]? = some (some dl) → (own (o.set i true) k && dk.isMut) = true → (own (o.set i true) l && dl.isMut) = true →
        (σ.set i (some v))[k]? = some (some (.ref a)) → (σ.set i (some v))[l]? = some (some (.ref a)) → False := fun k l dk dl hk hkl e1 e2 y1 y2 s1 s2 => by
      subst hk
      have lt : k < env.length := by
        have := (List.getElem?_eq_some_iff.mp e1).1
        rw [List.length_set] at this
        exact this
      rw [List.getElem?_set_self lt] at e1
      rw [List.getElem?_set_self (by rw [← r.len]; exact lt)] at s1
      have e3 : env[l]? = some (some dl) := (List.getElem?_set_ne hkl).symm.trans e2
      have s3 : σ[l]? = some (some (.ref a)) := (List.getElem?_set_ne hkl).symm.trans s2
      rw [own_set_ne (Ne.symm hkl)] at y2
      cases e1
      cases s1
      have z : d.isMut = true := (Bool.and_eq_true_iff.mp y1).2
      exact hd z l dl (Ne.symm hkl) e3 y2 s3
    by_cases hk : k = i
    · exact side k l dk dl hk hkl e1 e2 y1 y2 s1 s2
    · by_cases hl : l = i
      · exact side l k dl dk hl (Ne.symm hkl) e2 e1 y2 y1 s2 s1
      · rw [own_set_ne hk] at y1
        rw [own_set_ne hl] at y2
        rw [List.getElem?_set_ne (Ne.symm hk)] at e1 s1
        rw [List.getElem?_set_ne (Ne.symm hl)] at e2 s2
        exact r.dist k l dk dl a hkl e1 e2 y1 y2 s1 s2
/-- a slot is forgotten -/
theorem SR.forget (r : SR K ca g0 H0 o g env S σ H) (i : Nat) : SR K ca g0 H0 o g (env.set i none) S (σ.set i none) H where
  bs := r.bs
  fr := r.fr
  len := by rw [List.length_set, List.length_set, r.len]
  slot := fun j dj ej => by
    by_cases hj : j = i
    · subst hj
      have lt : j < env.length := by
        have := (List.getElem?_eq_some_iff.mp ej).1
        rw [List.length_set] at this
        exact this
      rw [List.getElem?_set_self lt] at ej
      cases ej
    · rw [List.getElem?_set_ne (Ne.symm hj)] at ej ⊢
      exact r.slot j dj ej
  dist := fun k l dk dl a hkl e1 e2 y1 y2 s1 s2 => by
    have ne : ∀ k dk, (env.set i none)[k]? = some (some dk) → k ≠ i := fun k dk e z => by
      subst z
      have lt : k < env.length := by
        have := (List.getElem?_eq_some_iff.mp e).1
        rw [List.length_set] at this
        exact this
      rw [List.getElem?_set_self lt] at e
      cases e
    have hk := ne k dk e1
    have hl := ne l dl e2
    rw [List.getElem?_set_ne (Ne.symm hk)] at e1 s1
    rw [List.getElem?_set_ne (Ne.symm hl)] at e2 s2
    exact r.dist k l dk dl a hkl e1 e2 y1 y2 s1 s2
/-- the slot i may be read -/
theorem SR.peek (r : SR K ca g0 H0 o g env S σ H) {i : Nat} (e : env[i]? = some (some d)) : ∃ v, σ[i]? = some (some v) ∧ RepH K ca g H v d := by
  obtain ⟨v, e1, e2⟩ := r.slot i d e
  refine ⟨v, e1, ?_⟩
  cases y : (own o i && d.isMut) with
  | true =>
    rw [SlotOk.own_ y] at e2
    obtain ⟨a, rfl, h0, h2, h3, h4⟩ := e2
    exact .inr ⟨a, rfl, h3, h4⟩
  | false =>
    rw [SlotOk.frz_ y] at e2
    exact .inl e2
theorem SR.read (r : SR K ca g0 H0 o g env S σ H) {i : Nat} (ho : own o i = false) (e : env[i]? = some (some d)) : ∃ v, σ[i]? = some (some v) ∧ Rep K ca g v d := by
  obtain ⟨v, e1, e2⟩ := r.slot i d e
  rw [SlotOk.frz_ (by rw [ho]; rfl)] at e2
  exact ⟨v, e1, e2⟩
end
end VE

set_option Elab.async false
set_option linter.all false
set_option maxRecDepth 100000
set_option maxHeartbeats 4000000
/-! VE, part 4: readings by the evaluator, and how rules of the layer serve them. -/
namespace VE
open PySem PySem.Spec PyProof.Rows L2

theorem _root_.L2.PE.imp {X : Cx} {e : Expr} {t t' : TE} (h : PE X e t) (i : ∀ σ H Q, t' σ H Q → t σ H Q) : PE X e t' := ⟨fun pins s σ H Q I q => h.run pins s σ H Q I (i σ H Q q)⟩
theorem _root_.L2.PT.imp {X : Cx} {e : Expr} {t t' : TT} (h : PT X e t) (i : ∀ σ H Q, t' σ H Q → t σ H Q) : PT X e t' := ⟨fun pins s σ H Q I q => h.run pins s σ H Q I (i σ H Q q)⟩
theorem _root_.L2.PW.imp {X : Cx} {e : Expr} {t t' : TT} (h : PW X e t) (i : ∀ σ H Q, t' σ H Q → t σ H Q) : PW X e t' := ⟨fun wh pins s σ H Q I q => h.run wh pins s σ H Q I (i σ H Q q)⟩
theorem _root_.L2.PA.imp {X : Cx} {e : List Expr} {t t' : TA} (h : PA X e t) (i : ∀ σ H Q, t' σ H Q → t σ H Q) : PA X e t' := ⟨fun pos pins s σ H Q I q => h.run pos pins s σ H Q I (i σ H Q q)⟩
theorem _root_.L2.PS.imp {X : Cx} {e : Stmt} {t t' : TS} (h : PS X e t) (i : ∀ D σ H, t' D σ H → t D σ H) : PS X e t' := ⟨fun pins s σ H D I q => h.run pins s σ H D I (i D σ H q)⟩
theorem _root_.L2.PSs.imp {X : Cx} {e : List Stmt} {t t' : TS} (h : PSs X e t) (i : ∀ D σ H, t' D σ H → t D σ H) : PSs X e t' := ⟨fun pins s σ H D I q => h.run pins s σ H D I (i D σ H q)⟩
theorem _root_.L2.PI.imp {X : Cx} {tg e : Expr} {t t' : TI} (h : PI X tg e t) (i : ∀ σ H Q, t' σ H Q → t σ H Q) : PI X tg e t' := ⟨fun pins s σ H Q I q => h.run pins s σ H Q I (i σ H Q q)⟩

section
variable (K : PySem.W.Frag) (ca : Nat → Addr)
/-- how an exception lies -/
def ExcOk (g : Gh) (H : Hp) (x : Exc) (cls : Value) (dx : Option Addr) : Prop := cls = .ref (ca x.c) ∧ match dx with
  | none => x.fs = []
  | some a => ∃ fs : List (Str × V), H a = some (.xd fs) ∧ fs.map (·.1) = x.fs.map (·.1) ∧ Reps K ca g (fs.map (·.2)) (x.fs.map (·.2))
def Wish (W : WX) (g : Gh) (H : Hp) (σ : L2.St) (x : Exc) (S' : Sto) : Prop := ∀ cls dx H' g', Bs K ca g' S' H' → Fr g H g' H' → ExcOk K ca g' H' x cls dx → W cls dx σ H'
def NewR (fr : Bool) (H : Hp) (g' : Gh) (H' : Hp) (v : V) (d : D) : Prop := if fr = true then NewD K ca H g' H' v d else Rep K ca g' v d
def PostN (W : WX) (fr : Bool) (g : Gh) (H : Hp) (σ : L2.St) (r : Res D) (Q : VK) : Prop := match r with
  | .ok d S' => ∀ v H' g', Bs K ca g' S' H' → Fr g H g' H' → NewR K ca fr H g' H' v d → Q v H'
  | .exc x S' => Wish K ca W g H σ x S'
  | .err => False
def PostP (W : WX) (g : Gh) (H : Hp) (σ : L2.St) (r : Res D) (Q : VK) : Prop := match r with
  | .ok d S' => ∀ v H' g', Bs K ca g' S' H' → Fr g H g' H' → RepH K ca g' H' v d → Q v H'
  | .exc x S' => Wish K ca W g H σ x S'
  | .err => False
def PostT (W : WX) (g : Gh) (H : Hp) (σ : L2.St) (r : Res Bool) (Q : Bool → Hp → Prop) : Prop := match r with
  | .ok b S' => ∀ H' g', Bs K ca g' S' H' → Fr g H g' H' → Q b H'
  | .exc x S' => Wish K ca W g H σ x S'
  | .err => False
inductive RepHs (g : Gh) (H : Hp) : List V → List D → Prop
  | nil : RepHs g H [] []
  | cons {v : V} {d : D} {vs : List V} {ds : List D} : RepH K ca g H v d → RepHs g H vs ds → RepHs g H (v :: vs) (d :: ds)
def PostPs (W : WX) (g : Gh) (H : Hp) (σ : L2.St) (r : Res (List D)) (Q : List V → Hp → Prop) : Prop := match r with
  | .ok ds S' => ∀ vs H' g', Bs K ca g' S' H' → Fr g H g' H' → RepHs K ca g' H' vs ds → Q vs H'
  | .exc x S' => Wish K ca W g H σ x S'
  | .err => False
def PostEs (W : WX) (g : Gh) (H : Hp) (σ : L2.St) (r : Res (List D)) (Q : List V → Hp → Prop) : Prop := match r with
  | .ok ds S' => ∀ vs H' g', Bs K ca g' S' H' → Fr g H g' H' → Reps K ca g' vs ds → Q vs H'
  | .exc x S' => Wish K ca W g H σ x S'
  | .err => False
end
/-- the surroundings of a reading: the written part, the classes, the def's entry, the owned slots, the wish about exceptions -/
structure Su where
  K : PySem.W.Frag
  ca : Nat → Addr
  g0 : Gh
  H0 : Hp
  o : List Bool
  W : WX
section
variable (u : Su)
abbrev Su.SR (g : Gh) (env : Env) (S : Sto) (σ : L2.St) (H : Hp) : Prop := VE.SR u.K u.ca u.g0 u.H0 u.o g env S σ H
def rN (fr : Bool) (f : Env → Sto → Res D) : TE := fun σ H Q => ∃ g env S, u.SR g env S σ H ∧ PostN u.K u.ca u.W fr g H σ (f env S) Q
abbrev rE (f : Env → Sto → Res D) : TE := rN u false f
def rP (f : Env → Sto → Res D) : TE := fun σ H Q => ∃ g env S, u.SR g env S σ H ∧ PostP u.K u.ca u.W g H σ (f env S) Q
def rT (f : Env → Sto → Res Bool) : TT := fun σ H Q => ∃ g env S, u.SR g env S σ H ∧ PostT u.K u.ca u.W g H σ (f env S) Q
def rPs (f : Env → Sto → Res (List D)) : TA := fun σ H Q => ∃ g env S, u.SR g env S σ H ∧ PostPs u.K u.ca u.W g H σ (f env S) Q
def rEs (f : Env → Sto → Res (List D)) : TA := fun σ H Q => ∃ g env S, u.SR g env S σ H ∧ PostEs u.K u.ca u.W g H σ (f env S) Q
end
section
variable {K : PySem.W.Frag} {ca : Nat → Addr} {g g' g1 : Gh} {H H' H1 : Hp} {W : WX} {σ : L2.St} {fr : Bool} {S S' : Sto} {v : V} {d : D}
theorem NewR.fr_ (h : NewR K ca true H g' H' v d) : NewD K ca H g' H' v d := h
theorem NewR.rep_ (h : NewR K ca false H g' H' v d) : Rep K ca g' v d := h
theorem NewD.imm_rep (h : Rep K ca g' v d) (z : d.isMut = false) : NewR K ca fr H g' H' v d := by
  cases fr with
  | true =>
    show NewD K ca H g' H' v d
    rw [NewD.imm z]
    exact h
  | false => exact h
theorem NewD.older (f : Fr g1 H1 g H) (h : NewD K ca H g' H' v d) : NewD K ca H1 g' H' v d := by
  cases z : d.isMut with
  | true =>
    rw [NewD.mut z] at h ⊢
    obtain ⟨a, e, h1, h2⟩ := h
    refine ⟨a, e, ?_, h2⟩
    cases q : H1 a with
    | none => rfl
    | some x => exact absurd h1 (f.dom a (by rw [q]; simp))
  | false =>
    rw [NewD.imm z] at h ⊢
    exact h
theorem NewR.older (f : Fr g1 H1 g H) (h : NewR K ca fr H g' H' v d) : NewR K ca fr H1 g' H' v d := by
  cases fr with
  | true => exact NewD.older f h
  | false => exact h
theorem Wish.later {x : Exc} (f : Fr g1 H1 g H) (h : Wish K ca W g1 H1 σ x S') : Wish K ca W g H σ x S' := fun cls dx H' g' b f' e => h cls dx H' g' b (f.trans f') e
theorem PostN.later {r : Res D} {Q : VK} (f : Fr g1 H1 g H) (h : PostN K ca W fr g1 H1 σ r Q) : PostN K ca W fr g H σ r Q := by
  cases r with
  | ok d S' => exact fun v H' g' b f' n => h v H' g' b (f.trans f') (n.older f)
  | exc x S' => exact Wish.later f h
  | err => exact h
theorem PostP.later {r : Res D} {Q : VK} (f : Fr g1 H1 g H) (h : PostP K ca W g1 H1 σ r Q) : PostP K ca W g H σ r Q := by
  cases r with
  | ok d S' => exact fun v H' g' b f' n => h v H' g' b (f.trans f') n
  | exc x S' => exact Wish.later f h
  | err => exact h
theorem PostT.later {r : Res Bool} {Q : Bool → Hp → Prop} (f : Fr g1 H1 g H) (h : PostT K ca W g1 H1 σ r Q) : PostT K ca W g H σ r Q := by
  cases r with
  | ok d S' => exact fun H' g' b f' => h H' g' b (f.trans f')
  | exc x S' => exact Wish.later f h
  | err => exact h
theorem PostPs.later {r : Res (List D)} {Q : List V → Hp → Prop} (f : Fr g1 H1 g H) (h : PostPs K ca W g1 H1 σ r Q) : PostPs K ca W g H σ r Q := by
  cases r with
  | ok d S' => exact fun v H' g' b f' n => h v H' g' b (f.trans f') n
  | exc x S' => exact Wish.later f h
  | err => exact h
theorem PostEs.later {r : Res (List D)} {Q : List V → Hp → Prop} (f : Fr g1 H1 g H) (h : PostEs K ca W g1 H1 σ r Q) : PostEs K ca W g H σ r Q := by
  cases r with
  | ok d S' => exact fun v H' g' b f' n => h v H' g' b (f.trans f') n
  | exc x S' => exact Wish.later f h
  | err => exact h
theorem RepHs.later (f : Fr g H g' H') : ∀ {vs : List V} {ds : List D}, RepHs K ca g H vs ds → RepHs K ca g' H' vs ds
  | _, _, .nil => .nil
  | _, _, .cons h t => .cons (h.fr f) (RepHs.later f t)
/-- a new value told as frozen -/
theorem _root_.L2.PE.frozen {u : Su} {X : Cx} {e : Expr} {f : Env → Sto → Res D} (h : PE X e (rN u fr f)) : PE X e (rE u f) := by
  refine h.imp fun σ H Q ⟨g, env, S, r, p⟩ => ⟨g, env, S, r, ?_⟩
  cases q : f env S with
  | ok d S' =>
    rw [q] at p
    intro v H' g' b f' n
    cases fr with
    | true =>
      obtain ⟨g2, r2, f2, _, n2⟩ := NewD.rep r f' b n
      exact p v H' g2 r2.bs f2 n2
    | false => exact p v H' g' b f' n
  | exc x S' =>
    rw [q] at p
    exact p
  | err =>
    rw [q] at p
    exact p
theorem _root_.L2.PE.peeked {u : Su} {X : Cx} {e : Expr} {f : Env → Sto → Res D} (h : PE X e (rE u f)) : PE X e (rP u f) := by
  refine h.imp fun σ H Q ⟨g, env, S, r, p⟩ => ⟨g, env, S, r, ?_⟩
  cases q : f env S with
  | ok d S' =>
    rw [q] at p
    exact fun v H' g' b f' n => p v H' g' b f' (.inl n)
  | exc x S' =>
    rw [q] at p
    exact p
  | err =>
    rw [q] at p
    exact p
/-- first a, then what comes of it -/
theorem bindP {u : Su} {f : Env → Sto → Res D} {k : D → Sto → Res D} {Q : VK} {env : Env} {R : V → Hp → Prop} (r : u.SR g env S σ H) (p : PostN u.K u.ca u.W fr g H σ ((f env S).bind k) Q)
    (h : ∀ x v S1 g1 H1, u.SR g1 env S1 σ H1 → Fr g H g1 H1 → RepH u.K u.ca g1 H1 v x → PostN u.K u.ca u.W fr g1 H1 σ (k x S1) Q → R v H1) : rP u f σ H R := by
  refine ⟨g, env, S, r, ?_⟩
  cases q : f env S with
  | ok x S1 =>
    rw [q] at p
    exact fun v H1 g1 b1 f1 n1 => h x v S1 g1 H1 (r.next f1 b1) f1 n1 (PostN.later f1 p)
  | exc x S' =>
    rw [q] at p
    exact p
  | err =>
    rw [q] at p
    exact p
theorem bindE {u : Su} {f : Env → Sto → Res D} {k : D → Sto → Res D} {Q : VK} {env : Env} {R : V → Hp → Prop} (r : u.SR g env S σ H) (p : PostN u.K u.ca u.W fr g H σ ((f env S).bind k) Q)
    (h : ∀ x v S1 g1 H1, u.SR g1 env S1 σ H1 → Fr g H g1 H1 → Rep u.K u.ca g1 v x → PostN u.K u.ca u.W fr g1 H1 σ (k x S1) Q → R v H1) : rE u f σ H R := by
  refine ⟨g, env, S, r, ?_⟩
  cases q : f env S with
  | ok x S1 =>
    rw [q] at p
    exact fun v H1 g1 b1 f1 n1 => h x v S1 g1 H1 (r.next f1 b1) f1 n1 (PostN.later f1 p)
  | exc x S' =>
    rw [q] at p
    exact p
  | err =>
    rw [q] at p
    exact p
theorem bindT {u : Su} {f : Env → Sto → Res Bool} {k : Bool → Sto → Res D} {Q : VK} {env : Env} {R : Bool → Hp → Prop} (r : u.SR g env S σ H) (p : PostN u.K u.ca u.W fr g H σ ((f env S).bind k) Q)
    (h : ∀ x S1 g1 H1, u.SR g1 env S1 σ H1 → Fr g H g1 H1 → PostN u.K u.ca u.W fr g1 H1 σ (k x S1) Q → R x H1) : rT u f σ H R := by
  refine ⟨g, env, S, r, ?_⟩
  cases q : f env S with
  | ok x S1 =>
    rw [q] at p
    exact fun H1 g1 b1 f1 => h x S1 g1 H1 (r.next f1 b1) f1 (PostN.later f1 p)
  | exc x S' =>
    rw [q] at p
    exact p
  | err =>
    rw [q] at p
    exact p
theorem bindPT {u : Su} {f : Env → Sto → Res D} {k : D → Sto → Res Bool} {Q : Bool → Hp → Prop} {env : Env} {R : V → Hp → Prop} (r : u.SR g env S σ H) (p : PostT u.K u.ca u.W g H σ ((f env S).bind k) Q)
    (h : ∀ x v S1 g1 H1, u.SR g1 env S1 σ H1 → Fr g H g1 H1 → RepH u.K u.ca g1 H1 v x → PostT u.K u.ca u.W g1 H1 σ (k x S1) Q → R v H1) : rP u f σ H R := by
  refine ⟨g, env, S, r, ?_⟩
  cases q : f env S with
  | ok x S1 =>
    rw [q] at p
    exact fun v H1 g1 b1 f1 n1 => h x v S1 g1 H1 (r.next f1 b1) f1 n1 (PostT.later f1 p)
  | exc x S' =>
    rw [q] at p
    exact p
  | err =>
    rw [q] at p
    exact p
theorem bindTT {u : Su} {f : Env → Sto → Res Bool} {k : Bool → Sto → Res Bool} {Q : Bool → Hp → Prop} {env : Env} {R : Bool → Hp → Prop} (r : u.SR g env S σ H) (p : PostT u.K u.ca u.W g H σ ((f env S).bind k) Q)
    (h : ∀ x S1 g1 H1, u.SR g1 env S1 σ H1 → Fr g H g1 H1 → PostT u.K u.ca u.W g1 H1 σ (k x S1) Q → R x H1) : rT u f σ H R := by
  refine ⟨g, env, S, r, ?_⟩
  cases q : f env S with
  | ok x S1 =>
    rw [q] at p
    exact fun H1 g1 b1 f1 => h x S1 g1 H1 (r.next f1 b1) f1 (PostT.later f1 p)
  | exc x S' =>
    rw [q] at p
    exact p
  | err =>
    rw [q] at p
    exact p
theorem bindPs {u : Su} {f : Env → Sto → Res (List D)} {k : List D → Sto → Res D} {Q : VK} {env : Env} {R : List V → Hp → Prop} (r : u.SR g env S σ H) (p : PostN u.K u.ca u.W fr g H σ ((f env S).bind k) Q)
    (h : ∀ x v S1 g1 H1, u.SR g1 env S1 σ H1 → Fr g H g1 H1 → RepHs u.K u.ca g1 H1 v x → PostN u.K u.ca u.W fr g1 H1 σ (k x S1) Q → R v H1) : rPs u f σ H R := by
  refine ⟨g, env, S, r, ?_⟩
  cases q : f env S with
  | ok x S1 =>
    rw [q] at p
    exact fun v H1 g1 b1 f1 n1 => h x v S1 g1 H1 (r.next f1 b1) f1 n1 (PostN.later f1 p)
  | exc x S' =>
    rw [q] at p
    exact p
  | err =>
    rw [q] at p
    exact p
theorem bindEs {u : Su} {f : Env → Sto → Res (List D)} {k : List D → Sto → Res D} {Q : VK} {env : Env} {R : List V → Hp → Prop} (r : u.SR g env S σ H) (p : PostN u.K u.ca u.W fr g H σ ((f env S).bind k) Q)
    (h : ∀ x v S1 g1 H1, u.SR g1 env S1 σ H1 → Fr g H g1 H1 → Reps u.K u.ca g1 v x → PostN u.K u.ca u.W fr g1 H1 σ (k x S1) Q → R v H1) : rEs u f σ H R := by
  refine ⟨g, env, S, r, ?_⟩
  cases q : f env S with
  | ok x S1 =>
    rw [q] at p
    exact fun v H1 g1 b1 f1 n1 => h x v S1 g1 H1 (r.next f1 b1) f1 n1 (PostN.later f1 p)
  | exc x S' =>
    rw [q] at p
    exact p
  | err =>
    rw [q] at p
    exact p
/-! ### the ends -/
/-- an immediate value at the state as it is -/
theorem PostN.here {u : Su} {env : Env} {Q : VK} (r : u.SR g env S σ H) (p : PostN u.K u.ca u.W fr g H σ (.ok d S) Q) (h : Rep u.K u.ca g v d) (z : d.isMut = false) : Q v H :=
  p v H g r.bs (Fr.refl g H) (NewD.imm_rep h z)
/-- a value that is there -/
theorem PostN.there {u : Su} {env : Env} {Q : VK} (r : u.SR g env S σ H) (p : PostN u.K u.ca u.W false g H σ (.ok d S) Q) (h : Rep u.K u.ca g v d) : Q v H :=
  p v H g r.bs (Fr.refl g H) h
/-- a new list -/
theorem PostN.lst {u : Su} {env : Env} {Q : VK} {p : Addr} {vs : List V} {ds : List D} (r : u.SR g env S σ H) (q : PostN u.K u.ca u.W true g H σ (.ok (.lst ds) S) Q) (h : Reps u.K u.ca g vs ds) (z : vs.length ≤ sizeLine) (n : H p = none) : Q (.ref p) (upd H p (.lst vs)) :=
  q (.ref p) _ g (r.bs.grow (same_upd n)) (Fr.grow (same_upd n)) (NewD.lst r.bs (Same.refl H) n z h)
/-- an object is frozen at once -/
def Gh.put (g : Gh) (a : Addr) (x : HO) : Gh := { g with G := upd g.G a x }
theorem Gh.put_le {a : Addr} {x : HO} (n : g.G a = none) : GhLe g (g.put a x) := ⟨same_upd n, fun _ _ h => h⟩
theorem Bs.put {a : Addr} {x : HO} (b : Bs K ca g S H) (n : H a = none) : Bs K ca (g.put a x) S (upd H a x) where
  sub := fun c y e => by
    by_cases z : c = a
    · subst z
      have e : upd g.G c x c = some y := e
      rw [upd_same] at e
      rw [upd_same]
      exact e
    · have e : upd g.G a x c = some y := e
      rw [upd_ne z] at e
      rw [upd_ne z]
      exact b.sub _ _ e
  off := fun c h => by
    have nc : c ≠ a := fun z => by
      obtain ⟨y, e⟩ := Gh.fp_there b h
      rw [z, n] at e
      cases e
    show upd g.G a x c = none
    rw [upd_ne nc]
    exact b.off c h
  len := b.len
  cell := fun k as c h1 h2 => ((b.grow (same_upd n)).cell k as c h1 h2).mono (Gh.put_le (Gh.G_none b.sub n)) fun _ _ => rfl
  nd := b.nd
theorem Fr.put {a : Addr} {x : HO} (s : Same g.G H) (n : H a = none) : Fr g H (g.put a x) (upd H a x) where
  le := Gh.put_le (Gh.G_none s n)
  keep := fun c y e _ => same_upd n _ _ e
  dom := (Fr.grow (g := g) (same_upd (x := x) n)).dom
  fpn := fun _ h => .inl h
  gn := fun c h => by
    by_cases z : c = a
    · exact .inr (by rw [z]; exact n)
    · have h : upd g.G a x c ≠ none := h
      rw [upd_ne z] at h
      exact .inl h
theorem Reps.put {a : Addr} {x : HO} {vs : List V} {ds : List D} (n : g.G a = none) (h : Reps K ca g vs ds) : Reps K ca (g.put a x) vs ds := h.mono (Gh.put_le n)
/-- a new tuple -/
theorem PostN.tup {u : Su} {env : Env} {Q : VK} {p : Addr} {vs : List V} {ds : List D} (r : u.SR g env S σ H) (q : PostN u.K u.ca u.W fr g H σ (.ok (.tup ds) S) Q) (h : Reps u.K u.ca g vs ds) (z : vs.length ≤ sizeLine) (n : H p = none) : Q (.ref p) (upd H p (.tup vs)) := by
  have n1 : g.G p = none := Gh.G_none r.bs.sub n
  refine q (.ref p) _ (g.put p (.tup vs)) (r.bs.put n) (Fr.put r.bs.sub n) (NewD.imm_rep ?_ rfl)
  exact .tup (.inl (.inl upd_same)) z (h.put n1)
/-! ### what may be read -/
theorem Rep.lst_inv {ds : List D} (h : Rep K ca g v (.lst ds)) : ∃ a vs, v = .ref a ∧ g.G a = some (.lst vs) ∧ vs.length ≤ sizeLine ∧ Reps K ca g vs ds := by
  cases h with
  | lst h1 h2 h3 => exact ⟨_, _, rfl, h1, h2, h3⟩
theorem Rep.tup_inv {ds : List D} (h : Rep K ca g v (.tup ds)) : ∃ a vs, v = .ref a ∧ SqT K g.G a vs ∧ vs.length ≤ sizeLine ∧ Reps K ca g vs ds := by
  cases h with
  | tup h1 h2 h3 => exact ⟨_, _, rfl, h1, h2, h3⟩
theorem RepH.lst_inv {ds : List D} (s : Same g.G H) (h : RepH K ca g H v (.lst ds)) : ∃ a vs, v = .ref a ∧ H a = some (.lst vs) ∧ vs.length ≤ sizeLine ∧ Reps K ca g vs ds := by
  rcases h with h | ⟨a, e, nf, vs, h1, h2, h3⟩
  · obtain ⟨a, vs, e, h1, h2, h3⟩ := h.lst_inv
    exact ⟨a, vs, e, s _ _ h1, h2, h3⟩
  · exact ⟨a, vs, e, h1, h2, h3⟩
theorem Rep.fz_inv {ds : List D} (h : Rep K ca g v (.fz ds)) : ∃ a vs, v = .ref a ∧ SqL K g.G a vs ∧ vs.length ≤ sizeLine ∧ Reps K ca g vs ds := by
  cases h with
  | fz h1 h2 h3 => exact ⟨_, _, rfl, h1, h2, h3⟩
theorem RepH.rep (h : RepH K ca g H v d) (z : d.isMut = false) : Rep K ca g v d := by
  rcases h with h | ⟨a, e, nf, h⟩
  · exact h
  · rw [h.isMut] at z
    cases z
theorem RepH.tup_inv {ds : List D} (s : Same g.G H) (h : RepH K ca g H v (.tup ds)) : ∃ a vs, v = .ref a ∧ SqT K H a vs ∧ vs.length ≤ sizeLine ∧ Reps K ca g vs ds := by
  obtain ⟨a, vs, e, h1, h2, h3⟩ := (h.rep rfl).tup_inv
  exact ⟨a, vs, e, SqT.mono s h1, h2, h3⟩
theorem RepH.int_inv {i : Int} (h : RepH K ca g H v (.int i)) : v = .int i := by
  cases h.rep rfl
  rfl
theorem RepH.bl_inv {i : Bool} (h : RepH K ca g H v (.bl i)) : v = .bl i := by
  cases h.rep rfl
  rfl
theorem RepH.str_inv {i : Str} (h : RepH K ca g H v (.str i)) : v = .str i ∧ strOk i := by
  cases h.rep rfl with
  | str _ k => exact ⟨rfl, k⟩
theorem RepH.non_inv (h : RepH K ca g H v .non) : v = .non := by
  cases h.rep rfl
  rfl
theorem RepH.dp {p : PyData} (s : Same g.G H) (h : RepH K ca g H v d) (e : d.pd = some p) : Dp K H v p ∧ p.canLay0 = true := by
  rcases h with h | ⟨a, ea, nf, h⟩
  · exact Rep.dp s h e
  · cases d with
    | lst ds =>
      obtain ⟨vs, h1, h2, h3⟩ := h
      simp only [D.pd] at e
      cases q : D.pds ds with
      | none =>
        rw [q] at e
        cases e
      | some ps =>
        rw [q] at e
        cases e
        obtain ⟨k1, k2⟩ := Reps.dps s h3 q
        rw [ea]
        exact ⟨.lst (.inl (.inl h1)) k1, by simp only [PyData.canLay0]; exact k2⟩
    | dK ds => cases e
    | dT ds => cases e
    | _ => exact h.elim
theorem RepHs.inv1 {vs : List V} {d : D} (h : RepHs K ca g H vs [d]) : ∃ v, vs = [v] ∧ RepH K ca g H v d := by
  cases h with
  | cons a t =>
    cases t
    exact ⟨_, rfl, a⟩
theorem RepHs.inv2 {vs : List V} {d d' : D} (h : RepHs K ca g H vs [d, d']) : ∃ v v', vs = [v, v'] ∧ RepH K ca g H v d ∧ RepH K ca g H v' d' := by
  cases h with
  | cons a t =>
    cases t with
    | cons b t =>
      cases t
      exact ⟨_, _, rfl, a, b⟩
/-- the truth -/
theorem RepH.tru {b : Bool} (s : Same g.G H) (h : RepH K ca g H v d) (e : d.tru = some b) : TruV K v H b := by
  cases d with
  | non =>
    cases e
    rw [h.non_inv]
    exact rfl
  | bl c =>
    cases e
    rw [h.bl_inv]
    exact rfl
  | int i =>
    cases e
    rw [h.int_inv]
    exact rfl
  | str x =>
    cases e
    rw [h.str_inv.1]
    refine ⟨h.str_inv.2.1, ?_⟩
    show (x.length != 0) = ((x.length : Int) != 0)
    rw [Bool.eq_iff_iff]
    simp only [bne_iff_ne, ne_eq]
    omega
  | tup ds =>
    cases e
    obtain ⟨a, vs, rfl, h1, h2, h3⟩ := h.tup_inv s
    refine .inr (.inl ⟨vs, h1, ?_⟩)
    cases h3 <;> rfl
  | lst ds =>
    cases e
    obtain ⟨a, vs, rfl, h1, h2, h3⟩ := h.lst_inv s
    refine .inl ⟨vs, .inl (.inl h1), ?_⟩
    cases h3 <;> rfl
  | dK es =>
    cases e
    have key : ∀ {kvs : List (Key × V)}, kvs.map (·.1) = es.map (·.1) → (!es.isEmpty) = !kvs.isEmpty := fun {kvs} hk => by
      cases kvs <;> cases es <;> first | rfl | cases hk
    rcases h with h | ⟨a, ea, nf, kvs, h1, h2, h3⟩
    · cases h with
      | dK h1 h2 h3 => exact .inr (.inr ⟨_, s _ _ h1, key h2⟩)
    · rw [ea]
      exact .inr (.inr ⟨kvs, h1, key h2⟩)
  | _ => cases e
end
end VE

set_option Elab.async false
set_option linter.all false
set_option maxRecDepth 100000
set_option maxHeartbeats 4000000
/-! VE, part 5: the operations' rules. -/
namespace VE
open PySem PySem.Spec PyProof.Rows L2

theorem strOk_mk {l : List Nat} (h1 : l.length ≤ sizeLine) (h2 : ∀ c ∈ l, c < 0x110000) : strOk ⟨l.toArray⟩ := by
  refine ⟨?_, ?_⟩
  · rw [TL.len_tl]
    exact h1
  · show (l.toArray.all fun c => decide (c < 0x110000)) = true
    rw [Array.all_eq_true']
    intro c hc
    exact decide_eq_true (h2 c (by simpa using hc))
theorem strOk_iff {s : Str} : strOk s ↔ (TL.tl s).length ≤ sizeLine ∧ ∀ c ∈ TL.tl s, c < 0x110000 := by
  unfold strOk
  rw [TL.len_tl, Array.all_eq_true']
  constructor
  · rintro ⟨h1, h2⟩
    exact ⟨h1, fun c hc => of_decide_eq_true (h2 c (by simpa using hc))⟩
  · rintro ⟨h1, h2⟩
    exact ⟨h1, fun c hc => decide_eq_true (h2 c (by simpa using hc))⟩
theorem strOk_append {x y : Str} (hx : strOk x) (hy : strOk y) (h : x.length + y.length ≤ sizeLine) : strOk (x ++ y) := by
  rw [strOk_iff] at hx hy ⊢
  rw [TL.len_tl, TL.len_tl] at h
  rw [TL.tl_append]
  refine ⟨by rw [List.length_append]; exact h, fun c hc => ?_⟩
  rcases List.mem_append.mp hc with q | q
  · exact hx.2 c q
  · exact hy.2 c q
theorem strOk_one {s : Str} (h : strOk s) {c : Nat} (hc : c ∈ TL.tl s) : strOk ⟨#[c]⟩ := by
  have q := (strOk_iff.mp h).2 c hc
  exact strOk_mk (l := [c]) (by show 1 ≤ sizeLine; decide) fun d hd => by
    have e : d = c := by simpa using hd
    rw [e]
    exact q
theorem strOk_sub {s : Str} {l : List Nat} (h : strOk s) (hl : l.Sublist (TL.tl s)) : strOk ⟨l.toArray⟩ := by
  have q := strOk_iff.mp h
  exact strOk_mk (Nat.le_trans hl.length_le q.1) fun c hc => q.2 c (hl.subset hc)
theorem strOk_cut {s : Str} (h : strOk s) (lo hi : Option Int) : strOk (cutS s lo hi) :=
  strOk_sub h ((List.take_sublist _ _).trans (List.drop_sublist _ _))
theorem strOk_num (n : Nat) (h : n.log2 < 1920) : strOk (toString (n : Int) : String) := by
  have e : TL.tl (Str.ofString (toString ((n : Nat) : Int))) = TL.numL n := TL.tl_num n
  rw [strOk_iff, e]
  have hn : n < 10 ^ 1920 := by
    have h1 : n < 2 ^ 1920 := by
      by_cases h0 : n = 0
      · rw [h0]
        exact Nat.two_pow_pos _
      · exact (Nat.log2_lt h0).mp h
    exact Nat.lt_of_lt_of_le h1 (Nat.pow_le_pow_left (by decide) _)
  refine ⟨Nat.le_trans (TL.numL_len (by decide) hn) (by decide), fun c hc => ?_⟩
  have q := TL.numL_digits n c hc
  omega
theorem strOk_ofString (s : String) (h : s.length ≤ sizeLine) : strOk (Str.ofString s) := by
  rw [strOk_iff, TL.tl_ofString]
  refine ⟨by rw [List.length_map]; exact h, fun c hc => ?_⟩
  obtain ⟨d, _, rfl⟩ := List.mem_map.mp hc
  have q := d.valid
  show d.val.toNat < 1114112
  rcases q with q | ⟨_, q⟩
  · have q' : d.val.toNat < 55296 := q
    omega
  · exact q
theorem int_len (i : Int) (h : i.natAbs.log2 < 1920) : (toString i : String).length ≤ sizeLine := by
  have key : ∀ n : Nat, n.log2 < 1920 → (toString n).length ≤ 1920 := fun n hn => by
    have e : TL.tl (Str.ofString (toString ((n : Nat) : Int))) = TL.numL n := TL.tl_num n
    rw [TL.tl_ofString] at e
    have e2 := congrArg List.length e
    rw [List.length_map] at e2
    have hn : n < 10 ^ 1920 := by
      have h1 : n < 2 ^ 1920 := by
        by_cases h0 : n = 0
        · rw [h0]
          exact Nat.two_pow_pos _
        · exact (Nat.log2_lt h0).mp hn
      exact Nat.lt_of_lt_of_le h1 (Nat.pow_le_pow_left (by decide) _)
    have q := TL.numL_len (k := 1920) (by decide) hn
    have e3 : (toString ((n : Nat) : Int) : String).toList.length = (toString n).length := by
      rw [String.length_toList]
      rfl
    omega
  have lim : sizeLine = 16777216 := sizeLine_eq
  cases i with
  | ofNat n =>
    have q := key n h
    show (toString n).length ≤ sizeLine
    omega
  | negSucc n =>
    have q := key (n + 1) h
    have e : (toString (Int.negSucc n) : String) = "-" ++ toString (n + 1) := rfl
    rw [e, String.length_append]
    have e1 : ("-" : String).length = 1 := rfl
    omega
theorem strOk_int (i : Int) (h : i.natAbs.log2 < 1920) : strOk (Str.ofString (toString i)) := strOk_ofString _ (int_len i h)

section
variable {X : Cx} {u : Su} {g : Gh} {env : Env} {S : Sto} {σ : L2.St} {H : Hp} {v w : V} {x y : D} {Q : VK}
theorem ok_of_some {α : Type} {W : WX} {K : PySem.W.Frag} {ca : Nat → Addr} {fr : Bool} {a : D} {o : Option D} (p : PostN K ca W fr g H σ (lift o S) Q) : ∃ a, o = some a ∧ PostN K ca W fr g H σ (.ok a S) Q := by
  cases o with
  | none => exact p.elim
  | some a => exact ⟨a, rfl, p⟩
theorem lift_post {W : WX} {K : PySem.W.Frag} {ca : Nat → Addr} {fr : Bool} {o : Option D} (p : PostN K ca W fr g H σ (lift o S) Q) : ∃ a, o = some a ∧ PostN K ca W fr g H σ (.ok a S) Q := by
  cases o with
  | none => exact p.elim
  | some a => exact ⟨a, rfl, p⟩
def pyOp : Op2 → Operator
  | .add => .Add
  | .sub => .Sub
  | .mul => .Mult
  | .mod => .Mod
  | .fdiv => .FloorDiv
  | .pow => .Pow
  | .shr => .RShift
  | .band => .BitAnd
/-- what an operation's reading is to give -/
def BinOk (u : Su) (o : Op2) (r : R2) : Prop := ∀ (g : Gh) (env : Env) (S : Sto) (σ : L2.St) (H : Hp) (v w : V) (x y : D) (Q : VK), u.SR g env S σ H → RepH u.K u.ca g H v x → RepH u.K u.ca g H w y →
  PostN u.K u.ca u.W true g H σ (lift (evBin o x y) S) Q → r v w H Q
theorem bin_int {o : Op2} {C : Int → Int → Prop} {f : Int → Int → Int} (h : ∀ x y d, evBin o x y = some d → ∃ i j, x = .int i ∧ y = .int j ∧ C i j ∧ d = .int (f i j)) : BinOk u o (rI C fun i j => .int (f i j)) :=
  fun g env S σ H v w x y Q r hv hw p => by
    obtain ⟨d, e, p⟩ := lift_post p
    obtain ⟨i, j, rfl, rfl, c, rfl⟩ := h x y d e
    exact ⟨i, j, hv.int_inv, hw.int_inv, c, p.here r (.int _) rfl⟩
theorem ok_sub : BinOk u .sub (rI0 fun i j => .int (i - j)) := fun g env S σ H v w x y Q r hv hw p => by
  obtain ⟨d, e, p⟩ := lift_post p
  cases x <;> cases y <;> simp only [evBin, reduceCtorEq, Option.some.injEq] at e
  subst e
  exact ⟨_, _, hv.int_inv, hw.int_inv, p.here r (.int _) rfl⟩
theorem ok_band : BinOk u .band (rI0 fun i j => .int (Builtin.bitAnd i j)) := fun g env S σ H v w x y Q r hv hw p => by
  obtain ⟨d, e, p⟩ := lift_post p
  cases x <;> cases y <;> simp only [evBin, reduceCtorEq, Option.some.injEq] at e
  subst e
  exact ⟨_, _, hv.int_inv, hw.int_inv, p.here r (.int _) rfl⟩
theorem ok_mul : BinOk u .mul (rI CMul fun i j => .int (i * j)) := bin_int fun x y d e => by
  cases x <;> cases y <;> simp only [evBin, reduceCtorEq] at e
  split at e
  · cases e
    exact ⟨_, _, rfl, rfl, ‹_›, rfl⟩
  · cases e
theorem ok_mod : BinOk u .mod (rI (fun _ j => 0 < j) fun i j => .int (i % j)) := bin_int fun x y d e => by
  cases x <;> cases y <;> simp only [evBin, reduceCtorEq] at e
  split at e
  · cases e
    exact ⟨_, _, rfl, rfl, ‹_›, rfl⟩
  · cases e
theorem ok_fdiv : BinOk u .fdiv (rI CDiv fun i j => .int (i / j)) := bin_int fun x y d e => by
  cases x <;> cases y <;> simp only [evBin, reduceCtorEq] at e
  split at e
  · cases e
    exact ⟨_, _, rfl, rfl, ‹_›, rfl⟩
  · cases e
theorem ok_pow : BinOk u .pow (rI CPow fun i j => .int (i ^ j.toNat)) := bin_int fun x y d e => by
  cases x <;> cases y <;> simp only [evBin, reduceCtorEq] at e
  split at e
  · cases e
    exact ⟨_, _, rfl, rfl, ‹_›, rfl⟩
  · cases e
theorem ok_shr : BinOk u .shr (rI (fun _ j => 0 ≤ j) fun i j => .int (i / 2 ^ j.toNat)) := bin_int fun x y d e => by
  cases x <;> cases y <;> simp only [evBin, reduceCtorEq] at e
  split at e
  · cases e
    exact ⟨_, _, rfl, rfl, ‹_›, rfl⟩
  · cases e
def rAddS : R2 := fun x y H Q => ∃ i j, x = .str i ∧ y = .str j ∧ i.length + j.length ≤ sizeLine ∧ Q (.str (i ++ j)) H
def rAll (K : PySem.W.Frag) : R2 := fun x y H Q => (rI0 (fun i j => .int (i + j)) x y H Q ∨ rAddS x y H Q) ∨ (rCat x y H Q ∨ rCatA K x y H Q)
theorem op_all : OpR X (binaryOp .Add) (rAll X.K) := (op_add.or op_add_str).or (op_cat.or op_catA)
theorem ok_add : BinOk u .add (rAll u.K) := fun g env S σ H v w x y Q r hv hw p => by
  obtain ⟨d, e, p⟩ := lift_post p
  cases x <;> cases y <;> simp only [evBin, reduceCtorEq] at e
  · cases e
    exact .inl (.inl ⟨_, _, hv.int_inv, hw.int_inv, p.here r (.int _) rfl⟩)
  · split at e
    · cases e
      rename_i h
      obtain ⟨e1, k1⟩ := hv.str_inv
      obtain ⟨e2, k2⟩ := hw.str_inv
      exact .inl (.inr ⟨_, _, e1, e2, h, p.here r (.str _ (strOk_append k1 k2 h)) rfl⟩)
    · cases e
  · split at e
    · cases e
      rename_i h
      obtain ⟨a, vs, rfl, q1, z1, r1⟩ := hv.tup_inv r.bs.sub
      obtain ⟨b, ws, rfl, q2, z2, r2⟩ := hw.tup_inv r.bs.sub
      have hl : vs.length + ws.length ≤ sizeLine := by
        rw [r1.length, r2.length]
        exact h
      refine .inr (.inr ⟨a, b, vs, ws, rfl, rfl, q1, q2, hl, fun e => ?_, fun _ e => ?_, fun _ _ p' np => ?_⟩)
      · subst e
        cases r1
        exact p.here r (hw.rep rfl) rfl
      · subst e
        cases r2
        rw [List.append_nil] at p
        exact p.here r (hv.rep rfl) rfl
      · exact p.tup r (r1.append r2) (by rw [List.length_append]; exact hl) np
    · cases e
  · split at e
    · cases e
      rename_i h
      obtain ⟨a, vs, rfl, q1, z1, r1⟩ := hv.lst_inv r.bs.sub
      obtain ⟨b, ws, rfl, q2, z2, r2⟩ := hw.lst_inv r.bs.sub
      have hl : vs.length + ws.length ≤ sizeLine := by
        rw [r1.length, r2.length]
        exact h
      exact .inr (.inl ⟨a, b, vs, ws, rfl, rfl, q1, q2, hl, fun p' np => p.lst r (r1.append r2) (by rw [List.length_append]; exact hl) np⟩)
    · cases e
/-- every operation has its rule -/
theorem bin_rule (hK : u.K = X.K) (o : Op2) : ∃ r, OpR X (binaryOp (pyOp o)) r ∧ BinOk u o r := by
  cases o with
  | add => exact ⟨_, op_all, by rw [← hK]; exact ok_add⟩
  | sub => exact ⟨_, op_sub, ok_sub⟩
  | mul => exact ⟨_, op_mul, ok_mul⟩
  | mod => exact ⟨_, op_mod, ok_mod⟩
  | fdiv => exact ⟨_, op_fdiv, ok_fdiv⟩
  | pow => exact ⟨_, op_pow, ok_pow⟩
  | shr => exact ⟨_, op_shr, ok_shr⟩
  | band => exact ⟨_, op_and, ok_band⟩
/-! ### comparisons -/
def pyCm : Cm → CmpOp
  | .eq => .Eq
  | .ne => .NotEq
  | .lt => .Lt
  | .le => .LtE
  | .gt => .Gt
  | .ge => .GtE
  | .isin => .In
  | .notin => .NotIn
def CmpOk (u : Su) (c : Cm) (r : R2) : Prop := ∀ (g : Gh) (S : Sto) (H : Hp) (v w : V) (x y : D) (Q : VK) (b : Bool), Bs u.K u.ca g S H → RepH u.K u.ca g H v x → RepH u.K u.ca g H w y →
  evCmp c x y = some b → Q (.bl b) H → r v w H Q
theorem evEq_inv {x y : D} {b : Bool} (e : evEq x y = some b) : ∃ p q, x.pd = some p ∧ y.pd = some q ∧ p.depth ≤ 64 ∧ q.depth ≤ 64 ∧ b = PyData.eqv p q := by
  unfold evEq at e
  cases h1 : x.pd with
  | none =>
    rw [h1] at e
    cases e
  | some p =>
    cases h2 : y.pd with
    | none =>
      rw [h1, h2] at e
      cases e
    | some q =>
      rw [h1, h2] at e
      simp only at e
      split at e
      · cases e
        rename_i h
        exact ⟨p, q, rfl, rfl, h.1, h.2, rfl⟩
      · cases e
theorem shaped_of {p : PyData} (h : p.canLay0 = true) (d : p.depth ≤ 64) : SeqAt.shaped p = true := by
  unfold SeqAt.shaped
  rw [h, decide_eq_true d]
  rfl
theorem ok_eq : CmpOk u .eq (rEqD u.K) := fun g S H v w x y Q b bs hv hw e q => by
  obtain ⟨p1, p2, e1, e2, d1, d2, rfl⟩ := evEq_inv (show evEq x y = some b from e)
  obtain ⟨k1, c1⟩ := hv.dp bs.sub e1
  obtain ⟨k2, c2⟩ := hw.dp bs.sub e2
  exact ⟨p1, p2, k1, k2, shaped_of c1 d1, shaped_of c2 d2, q⟩
theorem ok_ne : CmpOk u .ne (rNeD u.K) := fun g S H v w x y Q b bs hv hw e q => by
  have e : (evEq x y).map (!·) = some b := e
  cases h : evEq x y with
  | none =>
    rw [h] at e
    cases e
  | some c =>
    rw [h] at e
    cases e
    obtain ⟨p1, p2, e1, e2, d1, d2, rfl⟩ := evEq_inv h
    obtain ⟨k1, c1⟩ := hv.dp bs.sub e1
    obtain ⟨k2, c2⟩ := hw.dp bs.sub e2
    exact ⟨p1, p2, k1, k2, shaped_of c1 d1, shaped_of c2 d2, q⟩
def rOrd (f : Int → Int → Bool) (h : Str → Str → Bool) : R2 := fun x y H Q => rI0 (fun i j => .bl (f i j)) x y H Q ∨ ∃ i j, x = .str i ∧ y = .str j ∧ Q (.bl (h i j)) H
theorem ok_ord {c : Cm} {f : Int → Int → Bool} {h : Str → Str → Bool} (k : ∀ x y b, evCmp c x y = some b → (∃ i j, x = .int i ∧ y = .int j ∧ b = f i j) ∨ ∃ i j, x = .str i ∧ y = .str j ∧ b = h i j) : CmpOk u c (rOrd f h) :=
  fun g S H v w x y Q b bs hv hw e q => by
    rcases k x y b e with ⟨i, j, rfl, rfl, rfl⟩ | ⟨i, j, rfl, rfl, rfl⟩
    · exact .inl ⟨i, j, hv.int_inv, hw.int_inv, q⟩
    · exact .inr ⟨i, j, hv.str_inv.1, hw.str_inv.1, q⟩
theorem ok_lt : CmpOk u .lt (rOrd (fun i j => decide (i < j)) fun i j => decide (i.cps.toList < j.cps.toList)) := ok_ord fun x y b e => by
  cases x <;> cases y <;> simp only [evCmp, evLt, reduceCtorEq, Option.some.injEq] at e
  · exact .inl ⟨_, _, rfl, rfl, e.symm⟩
  · exact .inr ⟨_, _, rfl, rfl, e.symm⟩
theorem ok_gt : CmpOk u .gt (rOrd (fun i j => decide (j < i)) fun i j => decide (j.cps.toList < i.cps.toList)) := ok_ord fun x y b e => by
  cases x <;> cases y <;> simp only [evCmp, evLt, reduceCtorEq, Option.some.injEq] at e
  · exact .inl ⟨_, _, rfl, rfl, e.symm⟩
  · exact .inr ⟨_, _, rfl, rfl, e.symm⟩
theorem ok_le : CmpOk u .le (rOrd (fun i j => decide (i ≤ j)) fun i j => !decide (j.cps.toList < i.cps.toList)) := ok_ord fun x y b e => by
  cases x <;> cases y <;> simp only [evCmp, evLt, reduceCtorEq, Option.some.injEq] at e
  · exact .inl ⟨_, _, rfl, rfl, e.symm⟩
  · exact .inr ⟨_, _, rfl, rfl, e.symm⟩
theorem ok_ge : CmpOk u .ge (rOrd (fun i j => decide (j ≤ i)) fun i j => !decide (i.cps.toList < j.cps.toList)) := ok_ord fun x y b e => by
  cases x <;> cases y <;> simp only [evCmp, evLt, reduceCtorEq, Option.some.injEq] at e
  · exact .inl ⟨_, _, rfl, rfl, e.symm⟩
  · exact .inr ⟨_, _, rfl, rfl, e.symm⟩
/-- flat data is its value -/
theorem flat_v {K : PySem.W.Frag} {ca : Nat → Addr} (h : RepH K ca g H v x) (f : flatD x = true) : flatV v = true := by
  cases x <;> simp only [flatD, reduceCtorEq, Bool.false_eq_true] at f
  · rw [h.non_inv]; rfl
  · rw [h.bl_inv]; rfl
  · rw [h.int_inv]; rfl
  · rw [h.str_inv.1]; rfl
theorem flat_eq {K : PySem.W.Frag} {ca : Nat → Addr} (h : RepH K ca g H v x) (f : flatD x = true) (h' : RepH K ca g H w y) (f' : flatD y = true) : eqV v w = eqF x y := by
  cases x <;> simp only [flatD, reduceCtorEq, Bool.false_eq_true] at f <;> cases y <;> simp only [flatD, reduceCtorEq, Bool.false_eq_true] at f'
  all_goals
    first | (have e1 := h.non_inv) | (have e1 := h.bl_inv) | (have e1 := h.int_inv) | (have e1 := h.str_inv.1)
    first | (have e2 := h'.non_inv) | (have e2 := h'.bl_inv) | (have e2 := h'.int_inv) | (have e2 := h'.str_inv.1)
    rw [e1, e2]
    rfl
theorem flat_all {K : PySem.W.Frag} {ca : Nat → Addr} : ∀ {vs : List V} {ds : List D}, Reps K ca g vs ds → ds.all flatD = true → vs.all flatV = true
  | _, _, .nil, _ => rfl
  | _, _, .cons a t, h => by
    rw [List.all_cons, Bool.and_eq_true] at h ⊢
    exact ⟨flat_v (H := fun _ => none) (.inl a) h.1, flat_all t h.2⟩
theorem flat_any {K : PySem.W.Frag} {ca : Nat → Addr} (h : RepH K ca g H v x) (f : flatD x = true) : ∀ {vs : List V} {ds : List D}, Reps K ca g vs ds → ds.all flatD = true → (vs.any fun y => eqV y v) = ds.any fun z => eqF z x
  | _, _, .nil, _ => rfl
  | _, _, .cons a t, k => by
    rw [List.all_cons, Bool.and_eq_true] at k
    rw [List.any_cons, List.any_cons, flat_any h f t k.2, flat_eq (.inl a) k.1 h f]
def rInAll (K : PySem.W.Frag) : R2 := fun x y H Q => (∃ i j, x = .str i ∧ y = .str j ∧ Q (.bl (!(Builtin.Str.occurrences j i 0 j.length 1).isEmpty)) H) ∨ rIn K false x y H Q ∨ rInD K x y H Q
def rNotAll (K : PySem.W.Frag) : R2 := fun x y H Q => (∃ i j, x = .str i ∧ y = .str j ∧ Q (.bl (!(!(Builtin.Str.occurrences j i 0 j.length 1).isEmpty))) H) ∨ rIn K true x y H Q ∨ rNotInD K x y H Q
theorem evIn_inv {K : PySem.W.Frag} {ca : Nat → Addr} {b : Bool} (bs : Bs K ca g S H) (hv : RepH K ca g H v x) (hw : RepH K ca g H w y) (e : evIn x y = some b) :
    (∃ i j, v = .str i ∧ w = .str j ∧ b = !(Builtin.Str.occurrences j i 0 j.length 1).isEmpty) ∨
    (∃ p xs, w = .ref p ∧ (SqL K H p xs ∨ SqT K H p xs) ∧ flatV v = true ∧ xs.all flatV = true ∧ b = inV v xs) ∨
    (∃ d ds, Dp K H v d ∧ Dp K H w (.list ds) ∧ SeqAt.shaped d = true ∧ SeqAt.shaped (.list ds) = true ∧ b = ds.any fun z => PyData.eqv z d) := by
  cases y <;> simp only [evIn, reduceCtorEq] at e
  · cases x <;> simp only [reduceCtorEq, Option.some.injEq] at e
    exact .inl ⟨_, _, hv.str_inv.1, hw.str_inv.1, e.symm⟩
  · split at e
    · rename_i h
      cases e
      obtain ⟨a, vs, rfl, q1, z1, r1⟩ := hw.tup_inv bs.sub
      exact .inr (.inl ⟨a, vs, rfl, .inr q1, flat_v hv h.1, flat_all r1 h.2, (flat_any hv h.1 r1 h.2).symm⟩)
    · cases e
  · split at e
    · rename_i h
      cases e
      obtain ⟨a, vs, rfl, q1, z1, r1⟩ := hw.lst_inv bs.sub
      exact .inr (.inl ⟨a, vs, rfl, .inl (.inl (.inl q1)), flat_v hv h.1, flat_all r1 h.2, (flat_any hv h.1 r1 h.2).symm⟩)
    · rename_i ys _
      cases h1 : x.pd with
      | none =>
        rw [h1] at e
        cases e
      | some p =>
        cases h2 : D.pds ys with
        | none =>
          rw [h1, h2] at e
          cases e
        | some q =>
          rw [h1, h2] at e
          simp only at e
          split at e
          · rename_i hd
            cases e
            obtain ⟨k1, c1⟩ := hv.dp bs.sub h1
            obtain ⟨k2, c2⟩ := hw.dp bs.sub (p := .list q) (by simp only [D.pd, h2]; rfl)
            exact .inr (.inr ⟨p, q, k1, k2, shaped_of c1 hd.1, shaped_of c2 hd.2, rfl⟩)
          · cases e
theorem ok_in : CmpOk u .isin (rInAll u.K) := fun g S H v w x y Q b bs hv hw e q => by
  rcases evIn_inv bs hv hw e with ⟨i, j, h1, h2, rfl⟩ | ⟨p, xs, h1, h2, h3, h4, rfl⟩ | ⟨d, ds, h1, h2, h3, h4, rfl⟩
  · exact .inl ⟨i, j, h1, h2, q⟩
  · exact .inr (.inl ⟨p, xs, h1, h2, h3, h4, q⟩)
  · exact .inr (.inr ⟨d, ds, h1, h2, h3, h4, q⟩)
theorem ok_notin : CmpOk u .notin (rNotAll u.K) := fun g S H v w x y Q b bs hv hw e q => by
  have e : (evIn x y).map (!·) = some b := e
  cases h : evIn x y with
  | none =>
    rw [h] at e
    cases e
  | some c =>
    rw [h] at e
    cases e
    rcases evIn_inv bs hv hw h with ⟨i, j, h1, h2, rfl⟩ | ⟨p, xs, h1, h2, h3, h4, rfl⟩ | ⟨d, ds, h1, h2, h3, h4, rfl⟩
    · exact .inl ⟨i, j, h1, h2, q⟩
    · exact .inr (.inl ⟨p, xs, h1, h2, h3, h4, q⟩)
    · exact .inr (.inr ⟨d, ds, h1, h2, h3, h4, q⟩)
theorem cmp_rule (hK : u.K = X.K) (hu : X.A.units + 65 < cLine) (c : Cm) : ∃ r, OpR X (compareOp (pyCm c)) r ∧ CmpOk u c r := by
  have hu64 : X.A.units + 64 < cLine := by omega
  cases c with
  | eq => exact ⟨_, op_eqD hu64, by rw [← hK]; exact ok_eq⟩
  | ne => exact ⟨_, op_neD hu64, by rw [← hK]; exact ok_ne⟩
  | lt => exact ⟨_, op_lt.or op_lt_str, ok_lt⟩
  | le => exact ⟨_, op_le.or op_le_str, ok_le⟩
  | gt => exact ⟨_, op_gt.or op_gt_str, ok_gt⟩
  | ge => exact ⟨_, op_ge.or op_ge_str, ok_ge⟩
  | isin => exact ⟨_, op_in_str.or (op_in_seq.or (op_inD hu)), by rw [← hK]; exact ok_in⟩
  | notin => exact ⟨_, op_notin_str.or (op_notIn_seq.or (op_notInD hu)), by rw [← hK]; exact ok_notin⟩
end
end VE

set_option Elab.async false
set_option linter.all false
set_option maxRecDepth 100000
set_option maxHeartbeats 4000000
/-! VE, part 6: subscripts, slices, built-ins, methods. -/
namespace VE
open PySem PySem.Spec PyProof.Rows L2

section
variable {X : Cx} {u : Su} {g : Gh} {env : Env} {S : Sto} {σ : L2.St} {H : Hp} {v w : V} {x y : D} {Q : VK} {K : PySem.W.Frag} {ca : Nat → Addr}
theorem Reps.atI {vs : List V} {ds : List D} {i : Int} {d : D} (r : Reps K ca g vs ds) (e : atI ds i = some d) : ∃ v, atI vs i = some v ∧ Rep K ca g v d := by
  unfold L2.atI at e ⊢
  rw [r.length]
  cases h : ixN ds.length i with
  | none =>
    rw [h] at e
    cases e
  | some j =>
    rw [h] at e
    exact r.get e
/-- a subscript's reading -/
def rIxA (K : PySem.W.Frag) : R2 := fun x y H Q => rIxL K x y H Q ∨ rIxT K x y H Q ∨ rIxS x y H Q
theorem ix_post (bs : Bs K ca g S H) (hv : RepH K ca g H v x) (hw : RepH K ca g H w y) (e : evIx x y = some d) (q : ∀ z, Rep K ca g z d → Q z H) : rIxA K v w H Q := by
  cases x <;> cases y <;> simp only [evIx, reduceCtorEq] at e
  · obtain ⟨e1, k1⟩ := hv.str_inv
    rename_i s i
    cases h : L2.atI s.cps.toList i with
    | none =>
      rw [h] at e
      cases e
    | some c =>
      rw [h] at e
      cases e
      refine .inr (.inr ⟨s, i, c, e1, hw.int_inv, k1.1, h, q _ (.str _ (strOk_one k1 ?_))⟩)
      unfold L2.atI at h
      cases h2 : ixN s.cps.toList.length i with
      | none =>
        rw [h2] at h
        cases h
      | some j =>
        rw [h2] at h
        exact List.mem_of_getElem? h
  · obtain ⟨a, vs, rfl, q1, z1, r1⟩ := hv.tup_inv bs.sub
    obtain ⟨z, h1, h2⟩ := r1.atI e
    exact .inr (.inl ⟨a, vs, _, z, rfl, hw.int_inv, q1, h1, q z h2⟩)
  · obtain ⟨a, vs, rfl, q1, z1, r1⟩ := hv.lst_inv bs.sub
    obtain ⟨z, h1, h2⟩ := r1.atI e
    exact .inl ⟨a, vs, _, z, rfl, hw.int_inv, .inl (.inl q1), h1, q z h2⟩
theorem ix_rule : IxR X (rIxA X.K) := ix_list.or (ix_tup.or ix_str)
/-- the cut of values -/
theorem Reps.cut {vs : List V} {ds : List D} (r : Reps K ca g vs ds) (lo hi : Option Int) : Reps K ca g (cutV vs lo hi) (cutD ds lo hi) := by
  unfold L2.cutV cutD
  rw [r.length]
  exact (r.drop _).take _
theorem cut_all {ds : List D} {lo hi : Option Int} (h : HT.sIx ds.length 0 lo = 0 ∧ HT.sIx ds.length ds.length hi = ds.length) : cutD ds lo hi = ds := by
  unfold cutD
  rw [h.1, h.2, List.drop_zero, Nat.sub_zero, List.take_length]
def rSlAll (K : PySem.W.Frag) : V → Option Int → Option Int → Hp → VK → Prop := fun x lo hi H Q => rSlL K x lo hi H Q ∨ rSlA K x lo hi H Q ∨ rSlS x lo hi H Q
theorem sl_rule : SlR X (rSlAll X.K) := sl_list.or (sl_tupA.or sl_str)
theorem sl_post {lo hi : Option Int} (r : u.SR g env S σ H) (hv : RepH u.K u.ca g H v x) (p : PostN u.K u.ca u.W true g H σ (lift (evSl x lo hi) S) Q) : rSlAll u.K v lo hi H Q := by
  obtain ⟨d, e, p⟩ := lift_post p
  cases x <;> simp only [evSl, reduceCtorEq, Option.some.injEq] at e
  · subst e
    obtain ⟨e1, k1⟩ := hv.str_inv
    exact .inr (.inr ⟨_, e1, k1.1, p.here r (.str _ (strOk_cut k1 lo hi)) rfl⟩)
  · subst e
    obtain ⟨a, vs, rfl, q1, z1, r1⟩ := hv.tup_inv r.bs.sub
    refine .inr (.inl ⟨a, vs, rfl, q1, fun h => ?_, fun h p' np => p.tup r (r1.cut lo hi) (Nat.le_trans (cutV_length _ _ _) z1) np⟩)
    rw [r1.length] at h
    rw [cut_all h] at p
    exact p.here r (hv.rep rfl) rfl
  · subst e
    obtain ⟨a, vs, rfl, q1, z1, r1⟩ := hv.lst_inv r.bs.sub
    exact .inl ⟨a, vs, rfl, .inl (.inl q1), fun p' np => p.lst r (r1.cut lo hi) (Nat.le_trans (cutV_length _ _ _) z1) np⟩
  · subst e
    obtain ⟨a, vs, rfl, q1, z1, r1⟩ := (hv.rep rfl).fz_inv
    exact .inl ⟨a, vs, rfl, SqL.mono r.bs.sub q1, fun p' np => p.lst r (r1.cut lo hi) (Nat.le_trans (cutV_length _ _ _) z1) np⟩
/-! ### built-ins -/
def biName : Bi → Str
  | .len => "len" | .int => "int" | .str => "str" | .abs => "abs" | .max => "max" | .min => "min" | .sum => "sum" | .all => "all" | .any => "any" | .list => "list" | .tuple => "tuple" | .sorted => "sorted"
  | .repr => "repr" | _ => "len"
inductive Callee where
  | fn (id : String) | ty (id : String)
def biCal : Bi → Callee
  | .len => .fn "len" | .int => .ty "int" | .str => .ty "str" | .abs => .fn "abs" | .max => .fn "max" | .min => .fn "min" | .sum => .fn "sum" | .all => .fn "all" | .any => .fn "any" | .list => .ty "list" | .tuple => .ty "tuple" | .sorted => .fn "sorted"
  | .repr => .fn "repr" | _ => .fn "len"
def Callee.val : Callee → Value
  | .fn id => .builtin id
  | .ty id => .type id
def BiOk (u : Su) (b : Bi) (r : List V → Hp → VK → Prop) : Prop := ∀ (g : Gh) (env : Env) (S : Sto) (σ : L2.St) (H : Hp) (vs : List V) (xs : List D) (Q : VK), u.SR g env S σ H → RepHs u.K u.ca g H vs xs →
  PostN u.K u.ca u.W true g H σ (lift (evBi b xs) S) Q → r vs H Q
theorem CallR.or {f : Value} {r r' : List V → Hp → VK → Prop} (h : CallR X f r) (h' : CallR X f r') : CallR X f (fun xs H Q => r xs H Q ∨ r' xs H Q) := by
  intro pins s σ H xs us Q I rx q
  rcases q with q | q
  · exact h pins s σ H xs us Q I rx q
  · exact h' pins s σ H xs us Q I rx q
/-- one argument -/
theorem one_arg {vs : List V} {xs : List D} {d : D} {b : Bi} (h : RepHs K ca g H vs xs) (hx : ∃ x, xs = [x]) : ∃ x v, xs = [x] ∧ vs = [v] ∧ RepH K ca g H v x := by
  obtain ⟨x, rfl⟩ := hx
  obtain ⟨v, e, q⟩ := h.inv1
  exact ⟨x, v, rfl, e, q⟩
theorem ints_inv : ∀ {xs : List D} {ns : List Int}, ints? xs = some ns → xs = ns.map D.int
  | [], _, h => by
    cases h
    rfl
  | x :: xs, ns, h => by
    cases x <;> simp only [ints?, reduceCtorEq] at h
    cases q : ints? xs with
    | none =>
      rw [q] at h
      cases h
    | some ms =>
      rw [q] at h
      cases h
      rw [ints_inv q]
      rfl
theorem bls_inv : ∀ {xs : List D} {ns : List Bool}, bls? xs = some ns → xs = ns.map D.bl
  | [], _, h => by
    cases h
    rfl
  | x :: xs, ns, h => by
    cases x <;> simp only [bls?, reduceCtorEq] at h
    cases q : bls? xs with
    | none =>
      rw [q] at h
      cases h
    | some ms =>
      rw [q] at h
      cases h
      rw [bls_inv q]
      rfl
theorem strs_inv : ∀ {xs : List D} {ns : List Str}, strs? xs = some ns → xs = ns.map D.str
  | [], _, h => by
    cases h
    rfl
  | x :: xs, ns, h => by
    cases x <;> simp only [strs?, reduceCtorEq] at h
    cases q : strs? xs with
    | none =>
      rw [q] at h
      cases h
    | some ms =>
      rw [q] at h
      cases h
      rw [strs_inv q]
      rfl
theorem ev1_inv {f : D → Option D} {xs : List D} {d : D} (e : ev1 f xs = some d) : ∃ x, xs = [x] ∧ f x = some d := by
  match xs, e with
  | [x], e => exact ⟨x, rfl, e⟩
theorem ev2_inv {f : D → D → Option D} {xs : List D} {d : D} (e : ev2 f xs = some d) : ∃ x y, xs = [x, y] ∧ f x y = some d := by
  match xs, e with
  | [x, y], e => exact ⟨x, y, rfl, e⟩
/-- a built-in of one argument -/
theorem bi1 {b : Bi} {f : D → Option D} {r : List V → Hp → VK → Prop} (hb : ∀ xs, evBi b xs = ev1 f xs)
    (h : ∀ (g : Gh) (env : Env) (S : Sto) (σ : L2.St) (H : Hp) (v : V) (x d : D) (Q : VK), u.SR g env S σ H → RepH u.K u.ca g H v x → f x = some d → PostN u.K u.ca u.W true g H σ (.ok d S) Q → r [v] H Q) : BiOk u b r :=
  fun g env S σ H vs xs Q sr hv p => by
    obtain ⟨d, e, p1⟩ := lift_post p
    rw [hb] at e
    obtain ⟨x, rfl, e1⟩ := ev1_inv e
    obtain ⟨v, rfl, hv1⟩ := hv.inv1
    exact h g env S σ H v x d Q sr hv1 e1 p1
theorem bi2 {b : Bi} {f : D → D → Option D} {r : List V → Hp → VK → Prop} (hb : ∀ xs, evBi b xs = ev2 f xs)
    (h : ∀ (g : Gh) (env : Env) (S : Sto) (σ : L2.St) (H : Hp) (v w : V) (x y d : D) (Q : VK), u.SR g env S σ H → RepH u.K u.ca g H v x → RepH u.K u.ca g H w y → f x y = some d → PostN u.K u.ca u.W true g H σ (.ok d S) Q → r [v, w] H Q) : BiOk u b r :=
  fun g env S σ H vs xs Q sr hv p => by
    obtain ⟨d, e, p1⟩ := lift_post p
    rw [hb] at e
    obtain ⟨x, y, rfl, e1⟩ := ev2_inv e
    obtain ⟨v, w, rfl, hv1, hw1⟩ := hv.inv2
    exact h g env S σ H v w x y d Q sr hv1 hw1 e1 p1
def rLen2 (K : PySem.W.Frag) : List V → Hp → VK → Prop := fun xs H Q => ∃ x n, xs = [x] ∧ LenV K x H n ∧ Q (.int n) H
theorem ok_len : BiOk u .len (rLen2 u.K) := bi1 (fun _ => rfl) fun g env S σ H v x d Q r hv e p => by
  cases x <;> simp only [evLen, reduceCtorEq, Option.some.injEq] at e <;> subst e
  · obtain ⟨e1, k1⟩ := hv.str_inv
    subst e1
    exact ⟨_, _, rfl, ⟨k1.1, rfl⟩, p.here r (.int _) rfl⟩
  · obtain ⟨a, vs, rfl, q1, z1, r1⟩ := hv.tup_inv r.bs.sub
    refine ⟨_, _, rfl, .inr ⟨vs, q1, rfl⟩, ?_⟩
    rw [r1.length]
    exact p.here r (.int _) rfl
  · obtain ⟨a, vs, rfl, q1, z1, r1⟩ := hv.lst_inv r.bs.sub
    refine ⟨_, _, rfl, .inl ⟨vs, .inl (.inl q1), rfl⟩, ?_⟩
    rw [r1.length]
    exact p.here r (.int _) rfl
  · obtain ⟨a, vs, rfl, q1, z1, r1⟩ := (hv.rep rfl).fz_inv
    refine ⟨_, _, rfl, .inl ⟨vs, SqL.mono r.bs.sub q1, rfl⟩, ?_⟩
    rw [r1.length]
    exact p.here r (.int _) rfl
def rInt1 : List V → Hp → VK → Prop := fun xs H Q => ((∃ i, xs = [.int i] ∧ Q (.int i) H) ∨ ∃ k, xs = [.bl k] ∧ Q (.int (if k then 1 else 0)) H) ∨ ∃ a n, xs = [.str a] ∧ PySem.intText? a = some n ∧ a.length ≤ 640 ∧ Q (.int n) H
theorem ok_int : BiOk u .int rInt1 := bi1 (fun _ => rfl) fun g env S σ H v x d Q r hv e p => by
  cases x <;> simp only [evInt, reduceCtorEq, Option.some.injEq] at e
  · subst e
    exact .inl (.inr ⟨_, by rw [hv.bl_inv], p.here r (.int _) rfl⟩)
  · subst e
    exact .inl (.inl ⟨_, by rw [hv.int_inv], p.here r (.int _) rfl⟩)
  · rename_i s
    split at e
    · cases h : PySem.intText? s with
      | none =>
        rw [h] at e
        cases e
      | some n =>
        rw [h] at e
        cases e
        exact .inr ⟨s, n, by rw [hv.str_inv.1], h, ‹_›, p.here r (.int _) rfl⟩
    · cases e
def rAbs1 : List V → Hp → VK → Prop := fun xs H Q => ∃ i, xs = [.int i] ∧ Q (.int (if i < 0 then -i else i)) H
theorem ok_abs : BiOk u .abs rAbs1 := bi1 (fun _ => rfl) fun g env S σ H v x d Q r hv e p => by
  cases x <;> simp only [evAbs, reduceCtorEq, Option.some.injEq] at e
  subst e
  exact ⟨_, by rw [hv.int_inv], p.here r (.int _) rfl⟩
def rMax2 : List V → Hp → VK → Prop := fun xs H Q => ∃ i j, xs = [.int i, .int j] ∧ Q (.int (if j > i then j else i)) H
def rMin2 : List V → Hp → VK → Prop := fun xs H Q => ∃ i j, xs = [.int i, .int j] ∧ Q (.int (if j < i then j else i)) H
theorem ok_max : BiOk u .max rMax2 := bi2 (fun _ => rfl) fun g env S σ H v w x y d Q r hv hw e p => by
  cases x <;> cases y <;> simp only [evMax, reduceCtorEq, Option.some.injEq] at e
  subst e
  exact ⟨_, _, by rw [hv.int_inv, hw.int_inv], p.here r (.int _) rfl⟩
theorem ok_min : BiOk u .min rMin2 := bi2 (fun _ => rfl) fun g env S σ H v w x y d Q r hv hw e p => by
  cases x <;> cases y <;> simp only [evMin, reduceCtorEq, Option.some.injEq] at e
  subst e
  exact ⟨_, _, by rw [hv.int_inv, hw.int_inv], p.here r (.int _) rfl⟩
theorem ok_sum : BiOk u .sum (rSum u.K) := bi1 (fun _ => rfl) fun g env S σ H v x d Q r hv e p => by
  cases x <;> simp only [evSum, reduceCtorEq] at e
  rename_i xs
  cases h : ints? xs with
  | none =>
    rw [h] at e
    cases e
  | some ns =>
    rw [h] at e
    cases e
    obtain ⟨a, vs, rfl, q1, z1, r1⟩ := hv.lst_inv r.bs.sub
    rw [ints_inv h] at r1
    have ev := r1.ints
    subst ev
    exact ⟨a, ns, rfl, .inl (.inl q1), p.here r (.int _) rfl⟩
theorem ok_all : BiOk u .all (L2.rAll u.K) := bi1 (fun _ => rfl) fun g env S σ H v x d Q r hv e p => by
  cases x <;> simp only [evAll, reduceCtorEq] at e
  rename_i xs
  cases h : bls? xs with
  | none =>
    rw [h] at e
    cases e
  | some ns =>
    rw [h] at e
    cases e
    obtain ⟨a, vs, rfl, q1, z1, r1⟩ := hv.lst_inv r.bs.sub
    rw [bls_inv h] at r1
    have ev := r1.bls
    subst ev
    exact ⟨a, ns, rfl, .inl (.inl q1), p.here r (.bl _) rfl⟩
theorem ok_any : BiOk u .any (rAny u.K) := bi1 (fun _ => rfl) fun g env S σ H v x d Q r hv e p => by
  cases x <;> simp only [evAny, reduceCtorEq] at e
  rename_i xs
  cases h : bls? xs with
  | none =>
    rw [h] at e
    cases e
  | some ns =>
    rw [h] at e
    cases e
    obtain ⟨a, vs, rfl, q1, z1, r1⟩ := hv.lst_inv r.bs.sub
    rw [bls_inv h] at r1
    have ev := r1.bls
    subst ev
    exact ⟨a, ns, rfl, .inl (.inl q1), p.here r (.bl _) rfl⟩
def rList1 (K : PySem.W.Frag) : List V → Hp → VK → Prop := fun xs H Q => ∃ p ys, xs = [.ref p] ∧ (SqL K H p ys ∨ SqT K H p ys) ∧ ∀ l, H l = none → Q (.ref l) (upd H l (.lst ys))
theorem ok_list : BiOk u .list (rList1 u.K) := bi1 (fun _ => rfl) fun g env S σ H v x d Q r hv e p => by
  cases x <;> simp only [evList, reduceCtorEq, Option.some.injEq] at e <;> subst e
  · obtain ⟨a, vs, rfl, q1, z1, r1⟩ := hv.tup_inv r.bs.sub
    exact ⟨a, vs, rfl, .inr q1, fun l nl => p.lst r r1 z1 nl⟩
  · obtain ⟨a, vs, rfl, q1, z1, r1⟩ := hv.lst_inv r.bs.sub
    exact ⟨a, vs, rfl, .inl (.inl (.inl q1)), fun l nl => p.lst r r1 z1 nl⟩
  · obtain ⟨a, vs, rfl, q1, z1, r1⟩ := (hv.rep rfl).fz_inv
    exact ⟨a, vs, rfl, .inl (SqL.mono r.bs.sub q1), fun l nl => p.lst r r1 z1 nl⟩
def rTuple1 (K : PySem.W.Frag) : List V → Hp → VK → Prop := fun xs H Q => ∃ p ys, xs = [.ref p] ∧ ((SqL K H p ys ∧ ∀ l, H l = none → Q (.ref l) (upd H l (.tup ys))) ∨ (SqT K H p ys ∧ Q (.ref p) H))
theorem ok_tuple : BiOk u .tuple (rTuple1 u.K) := bi1 (fun _ => rfl) fun g env S σ H v x d Q r hv e p => by
  cases x <;> simp only [evTuple, reduceCtorEq, Option.some.injEq] at e <;> subst e
  · obtain ⟨a, vs, rfl, q1, z1, r1⟩ := hv.tup_inv r.bs.sub
    exact ⟨a, vs, rfl, .inr ⟨q1, p.here r (hv.rep rfl) rfl⟩⟩
  · obtain ⟨a, vs, rfl, q1, z1, r1⟩ := hv.lst_inv r.bs.sub
    exact ⟨a, vs, rfl, .inl ⟨.inl (.inl q1), fun l nl => p.tup r r1 z1 nl⟩⟩
def rStr1 : List V → Hp → VK → Prop := fun xs H Q => (∃ i, xs = [.int i] ∧ i.natAbs.log2 < 1920 ∧ Q (.str (toString i)) H) ∨ ∃ a, xs = [.str a] ∧ Q (.str a) H
theorem ok_str : BiOk u .str rStr1 := bi1 (fun _ => rfl) fun g env S σ H v x d Q r hv e p => by
  cases x <;> simp only [evStr, reduceCtorEq, Option.some.injEq] at e
  · split at e
    · cases e
      rename_i i h
      exact .inl ⟨i, by rw [hv.int_inv], h, p.here r (.str _ (strOk_int i h)) rfl⟩
    · cases e
  · subst e
    exact .inr ⟨_, by rw [hv.str_inv.1], p.here r (.str _ hv.str_inv.2) rfl⟩
/-! ### sorted -/
theorem DpAll.getV {H : Hp} : ∀ {vs : List V} {ps : List PyData}, DpAll K H vs ps → vs.length = ps.length
  | _, _, .nil => rfl
  | _, _, .cons _ t => by rw [List.length_cons, List.length_cons, DpAll.getV t]
/-- the items of a list, as values of the machine -/
theorem each_of {us : List Value} : ∀ {vs : List V} {ds : List D}, Reps K ca g vs ds → Vals vs us → PySem.W.EachIs (fun (u : Value) (d : D) => ∃ v, RelV v u ∧ Rep K ca g v d) us ds := by
  intro vs ds r
  induction ds generalizing vs us with
  | nil =>
    intro h
    cases r
    cases h
    exact .nil
  | cons d ds ih =>
    intro h
    cases r with
    | cons a t =>
      cases h with
      | cons b s => exact .cons ⟨_, b, a⟩ (ih t s)
theorem each_back : ∀ {us : List Value} {ds : List D}, PySem.W.EachIs (fun (u : Value) (d : D) => ∃ v, RelV v u ∧ Rep K ca g v d) us ds → ∃ vs, Vals vs us ∧ Reps K ca g vs ds
  | _, _, .nil => ⟨[], .nil, .nil⟩
  | _, _, .cons ⟨v, h1, h2⟩ t => by
    obtain ⟨vs, k1, k2⟩ := each_back t
    exact ⟨v :: vs, .cons h1 k1, .cons h2 k2⟩
def rSortD (u : Su) : List V → Hp → VK → Prop := fun vs H Q => ∃ (g : Gh) (a : Addr) (ws : List V) (ds : List D), vs = [.ref a] ∧ Same g.G H ∧ H a = some (.lst ws) ∧ Reps u.K u.ca g ws ds ∧ ds.length ≤ sizeLine ∧ sortOk ds = true ∧
  ∀ (p : Addr) (zs : List V), H p = none → zs.length = ws.length → Reps u.K u.ca g zs (ds.mergeSort (PySem.W.dataLe false encD)) → Q (.ref p) (upd H p (.lst zs))
theorem sortOk_inv {xs : List D} (h : sortOk xs = true) : (∀ x ∈ xs, ∃ p, x.pd = some p ∧ encD x = p ∧ p.depth ≤ 64) ∧ PySem.W.AllAlike (xs.map encD) ∧ PySem.W.Sortable (xs.map encD) := by
  unfold sortOk at h
  simp only [Bool.and_eq_true, Bool.or_eq_true, List.all_eq_true, decide_eq_true_eq] at h
  obtain ⟨⟨⟨h1, h2⟩, h3⟩, h4⟩ := h
  refine ⟨fun x hx => ?_, fun d hd d' hd' => ?_, ?_⟩
  · obtain ⟨p, hp⟩ := Option.isSome_iff_exists.mp (h1 x hx)
    have e : encD x = p := by
      unfold encD
      rw [hp]
      rfl
    exact ⟨p, hp, e, by rw [← e]; exact h4 x hx⟩
  · obtain ⟨x, hx, rfl⟩ := List.mem_map.mp hd
    obtain ⟨y, hy, rfl⟩ := List.mem_map.mp hd'
    exact h2 x hx y hy
  · rcases h3 with h3 | h3
    · refine .inl fun d hd => ?_
      obtain ⟨x, hx, rfl⟩ := List.mem_map.mp hd
      obtain ⟨p, hp⟩ := Option.isSome_iff_exists.mp (h1 x hx)
      have q := h3 x hx
      match x, q, hp with
      | .tup (y :: ys), _, hp =>
        unfold encD
        simp only [D.pd, D.pds] at hp ⊢
        cases e1 : y.pd with
        | none =>
          rw [e1] at hp
          cases hp
        | some z =>
          cases e2 : D.pds ys with
          | none =>
            rw [e1, e2] at hp
            cases hp
          | some zs =>
            exact ⟨z, zs, rfl⟩
    · refine .inr fun d hd => ?_
      obtain ⟨x, hx, rfl⟩ := List.mem_map.mp hd
      obtain ⟨p, hp⟩ := Option.isSome_iff_exists.mp (h1 x hx)
      have q := h3 x hx
      unfold encD
      cases x <;> simp only [Bool.false_eq_true] at q
      all_goals try (simp only [D.pd, reduceCtorEq] at hp)
      · exact ⟨by simp [D.pd], by simp [D.pd]⟩
      · exact ⟨by simp [D.pd], by simp [D.pd]⟩
      · exact ⟨by simp [D.pd], by simp [D.pd]⟩
      · rename_i xs
        cases e : D.pds xs with
        | none =>
          rw [e] at hp
          cases hp
        | some ps => exact ⟨by simp [D.pd, e], by simp [D.pd, e]⟩
theorem cr_sortD (hK : u.K = X.K) (hu : X.A.units + 66 < cLine) : CallR X (.builtin "sorted") (rSortD u) := by
  intro pins s σ H vs us Q I rv h
  obtain ⟨g, a, ws, ds, rfl, sm, hl, r, hz, ok, q⟩ := h
  obtain ⟨u1, rfl, ru⟩ := vals1 rv
  obtain rfl : u1 = Value.ref a := ru
  obtain ⟨its, ri, pl, hz2⟩ := I.list (xs := ws) (.inl (.inl hl))
  obtain ⟨k1, k2, k3⟩ := sortOk_inv ok
  have er : PySem.W.EachIs (fun (v : Value) (d : D) => ∃ as, Reads s.heap v (encD d) as) its ds := by
    have key : ∀ {vs : List V} {ds : List D} {us : List Value}, (∀ x ∈ ds, ∃ p, x.pd = some p ∧ encD x = p ∧ p.depth ≤ 64) → Reps u.K u.ca g vs ds → Vals vs us → PySem.W.EachIs (fun (v : Value) (d : D) => ∃ as, Reads s.heap v (encD d) as) us ds := by
      intro vs ds
      induction ds generalizing vs with
      | nil =>
        intro us _ r h
        cases r
        cases h
        exact .nil
      | cons d ds ih =>
        intro us hk r h
        cases r with
        | cons r1 t =>
          cases h with
          | cons b c =>
            obtain ⟨p, hp, e, _⟩ := hk d List.mem_cons_self
            have dp := (Rep.dp sm r1 hp).1
            rw [hK] at dp
            obtain ⟨as, z⟩ := Dp.reads I p _ _ dp b
            exact .cons ⟨as, by rw [e]; exact z⟩ (ih (fun x hx => hk x (List.mem_cons_of_mem _ hx)) t c)
    exact key k1 r ri
  refine PySem.W.sorted_data (R := fun (u1 : Value) (d : D) => ∃ v, RelV v u1 ∧ Rep u.K u.ca g v d) pl.isList (each_of r ri) er k2 k3 hz (fun b hb => ?_) fun out ho eo => ?_
  · obtain ⟨p, _, e, hd⟩ := k1 b hb
    rw [e]
    omega
  · obtain ⟨zs, z1, z2⟩ := each_back eo
    obtain ⟨c, hc⟩ := sortedAll_at s.heap its out.toArray
    have nf : H (s.heap.objs.size + 1) = none := I.hok.fresh (Nat.le_succ _)
    have lz : zs.length = ws.length := by
      rw [z1.length, ho, r.length]
    refine ⟨.ref (s.heap.objs.size + 1), upd H (s.heap.objs.size + 1) (.lst zs), I.laid (t' := s.toks) (fun _ _ => sortedAll_old) (Nat.le_succ _) ⟨by rw [lz]; exact hz2, out, c, z1, hc⟩, rfl, q _ _ nf lz z2⟩
theorem ok_sorted : BiOk u .sorted (rSortD u) := bi1 (fun _ => rfl) fun g env S σ H v x d Q r hv e p => by
  cases x <;> simp only [evSorted, reduceCtorEq] at e
  split at e
  · cases e
    obtain ⟨a, vs, rfl, q1, z1, r1⟩ := hv.lst_inv r.bs.sub
    exact ⟨g, a, vs, _, rfl, r.bs.sub, q1, r1, by rw [← r1.length]; exact z1, ‹_›, fun p' zs np lz rz => p.lst r rz (by rw [lz]; exact z1) np⟩
  · cases e
/-! ### repr -/
def rReprD (K : PySem.W.Frag) : List V → Hp → VK → Prop := fun vs H Q => ∃ a p, vs = [.ref a] ∧ Dp K H (.ref a) p ∧ p.canLay0 = true ∧ p.showable = true ∧ p.depth ≤ 64 ∧ p.shown.length ≤ sizeLine ∧ Q (.str p.shown) H
theorem cr_repr (hu : X.A.units + 66 < cLine) (hg : X.A.guards = some []) : CallR X (.builtin "repr") (rReprD X.K) := by
  intro pins s σ H vs us Q I rv h
  obtain ⟨a, p, rfl, dp, cl, sh, hd, hz, q⟩ := h
  obtain ⟨u1, rfl, ru⟩ := vals1 rv
  obtain rfl : u1 = Value.ref a := ru
  obtain ⟨as, rd⟩ := Dp.reads I p _ _ dp (show RelV (.ref a) (Value.ref a) from rfl)
  exact PySem.repr_of_reads' (h₀ := s.heap) rd sh (PySem.PyData.noDict_hsm (PySem.PyData.hasDict_of_canLay p cl)) hg (by omega) (fun _ _ e => e) (fun h' u tk hk => ⟨.str p.shown, H, I.kept hk, ⟨u, rfl⟩, q⟩) hz
theorem ok_repr : BiOk u .repr (rReprD u.K) := bi1 (fun _ => rfl) fun g env S σ H v x d Q r hv e p => by
  have key : ∀ {a : Addr} (pp : PyData), v = .ref a → x.pd = some pp → (if (pp.depth ≤ 64 ∧ pp.showable = true) ∧ pp.shown.length ≤ sizeLine ∧ pp.shown.cps.all (· < 0x110000) = true then some (D.str pp.shown) else none) = some d → rReprD u.K [v] H Q := fun pp ev ex e => by
    subst ev
    split at e
    · rename_i hh
      cases e
      obtain ⟨dp, cl⟩ := hv.dp r.bs.sub ex
      exact ⟨_, pp, rfl, dp, cl, hh.1.2, hh.1.1, hh.2.1, p.here r (.str _ ⟨hh.2.1, hh.2.2⟩) rfl⟩
    · cases e
  cases x <;> simp only [evRepr, reduceCtorEq] at e
  · split at e
    · rename_i pp ex
      obtain ⟨a, vs, ev, _⟩ := hv.tup_inv r.bs.sub
      exact key pp ev ex e
    · cases e
  · split at e
    · rename_i pp ex
      obtain ⟨a, vs, ev, _⟩ := hv.lst_inv r.bs.sub
      exact key pp ev ex e
    · cases e
/-- every built-in that is served -/
def biOn : Bi → Bool
  | .sortedSet => false
  | .lenSet => false
  | .tupleZip => false
  | _ => true
theorem bi_rule (hK : u.K = X.K) (hc : X.calm = true) (hu : X.A.units + 66 < cLine) (hg : X.A.guards = some []) (b : Bi) (hb : biOn b = true) : ∃ r, CallR X (biCal b).val r ∧ BiOk u b r := by
  cases b with
  | len => exact ⟨_, call_len, by rw [← hK]; exact ok_len⟩
  | int => exact ⟨_, CallR.or call_int1 call_int_str, ok_int⟩
  | str => exact ⟨_, CallR.or call_str_int SkE.call_str_str, ok_str⟩
  | abs => exact ⟨_, call_abs, ok_abs⟩
  | max => exact ⟨_, call_max2 hc, ok_max⟩
  | min => exact ⟨_, call_min2 hc, ok_min⟩
  | sum => exact ⟨_, cr_sum hc, by rw [← hK]; exact ok_sum⟩
  | all => exact ⟨_, cr_all hc, by rw [← hK]; exact ok_all⟩
  | any => exact ⟨_, cr_any hc, by rw [← hK]; exact ok_any⟩
  | list => exact ⟨_, call_list_of, by rw [← hK]; exact ok_list⟩
  | tuple => exact ⟨_, call_tuple_of, by rw [← hK]; exact ok_tuple⟩
  | sorted => exact ⟨_, cr_sortD hK hu, ok_sorted⟩
  | repr => exact ⟨_, cr_repr hu hg, by rw [← hK]; exact ok_repr⟩
  | _ => cases hb
/-! ### methods that change nothing -/
def MeOk (u : Su) (m : Me) (r : V → List V → Hp → VK → Prop) : Prop := ∀ (g : Gh) (env : Env) (S : Sto) (σ : L2.St) (H : Hp) (v : V) (x : D) (vs : List V) (xs : List D) (Q : VK), u.SR g env S σ H → RepH u.K u.ca g H v x → RepHs u.K u.ca g H vs xs →
  PostN u.K u.ca u.W true g H σ (lift (evMe m x xs) S) Q → (∃ s, v = .str s) ∧ (∃ w, vs = [w]) ∧ r v vs H Q
def meName : Me → Str
  | .join => "join"
  | .split => "split"
  | .partition => "partition"
def meId : Me → String
  | .join => "str.join"
  | .split => "str.split"
  | .partition => "str.partition"
theorem ev1s_inv {f : Str → D → Option D} {x : D} {xs : List D} {d : D} (e : ev1s f x xs = some d) : ∃ s y, x = .str s ∧ xs = [y] ∧ f s y = some d := by
  unfold ev1s at e
  split at e
  · exact ⟨_, _, rfl, rfl, e⟩
  · cases e
theorem me1 {m : Me} {f : Str → D → Option D} {r : V → List V → Hp → VK → Prop} (hm : ∀ x xs, evMe m x xs = ev1s f x xs)
    (h : ∀ (g : Gh) (env : Env) (S : Sto) (σ : L2.St) (H : Hp) (s : Str) (w : V) (y d : D) (Q : VK), u.SR g env S σ H → strOk s → RepH u.K u.ca g H w y → f s y = some d → PostN u.K u.ca u.W true g H σ (.ok d S) Q → r (.str s) [w] H Q) : MeOk u m r :=
  fun g env S σ H v x vs xs Q sr hv hw p => by
    obtain ⟨d, e, p1⟩ := lift_post p
    rw [hm] at e
    obtain ⟨s, y, rfl, rfl, e1⟩ := ev1s_inv e
    obtain ⟨w, rfl, hw1⟩ := hw.inv1
    obtain ⟨rfl, k⟩ := hv.str_inv
    exact ⟨⟨_, rfl⟩, ⟨_, rfl⟩, h g env S σ H s w y d Q sr k hw1 e1 p1⟩
theorem joinL_ok {S : List Nat} (hS : ∀ c ∈ S, c < 0x110000) : ∀ {ps : List (List Nat)}, (∀ p ∈ ps, ∀ c ∈ p, c < 0x110000) → ∀ c ∈ TL.joinL S ps, c < 0x110000
  | [], _, c, hc => nomatch hc
  | [p], h, c, hc => h p (by simp) c hc
  | p :: q :: r, h, c, hc => by
    have hc : c ∈ p ++ (S ++ TL.joinL S (q :: r)) := hc
    rcases List.mem_append.mp hc with k | k
    · exact h p (by simp) c k
    · rcases List.mem_append.mp k with k | k
      · exact hS c k
      · exact joinL_ok hS (fun x hx => h x (List.mem_cons_of_mem _ hx)) c k
theorem joinL_len (S : List Nat) : ∀ (ps : List (List Nat)), (TL.joinL S ps).length ≤ (ps.map (·.length)).sum + ps.length * S.length
  | [] => Nat.zero_le _
  | [p] => by
    show p.length ≤ _
    simp
  | p :: q :: r => by
    have ih := joinL_len S (q :: r)
    show (p ++ (S ++ TL.joinL S (q :: r))).length ≤ _
    rw [List.length_append, List.length_append, List.map_cons, List.sum_cons, List.length_cons]
    rw [Nat.add_mul]
    omega
theorem strOk_join {s : Str} {ys : List Str} (hs : strOk s) (hy : ∀ y ∈ ys, strOk y) (h : (ys.map (·.length)).sum + ys.length * s.length ≤ 16777216) : strOk (Txt.join s ys) := by
  have e : TL.tl (Txt.join s ys) = TL.joinL (TL.tl s) (ys.map TL.tl) := by
    rw [TL.join_eq, TL.tl_join]
  rw [strOk_iff, e]
  refine ⟨?_, joinL_ok (strOk_iff.mp hs).2 fun p hp => ?_⟩
  · have q := joinL_len (TL.tl s) (ys.map TL.tl)
    rw [List.map_map, List.length_map, ← TL.len_tl] at q
    have e2 : (ys.map ((fun x => x.length) ∘ TL.tl)).sum = (ys.map (·.length)).sum := by
      congr 1
    rw [e2] at q
    rw [sizeLine_eq]
    omega
  · obtain ⟨y, hy', rfl⟩ := List.mem_map.mp hp
    exact (strOk_iff.mp (hy y hy')).2
theorem ok_join : MeOk u .join (fun x xs H Q => ∃ a p, ∃ ys : List Str, x = .str a ∧ xs = [.ref p] ∧ (SqL u.K H p (ys.map V.str) ∨ SqT u.K H p (ys.map V.str)) ∧ (ys.map (·.length)).sum + ys.length * a.length ≤ 16777216 ∧ Q (.str (Txt.join a ys)) H) :=
  me1 (fun _ _ => rfl) fun g env S σ H s w y d Q r hs hw e p => by
    cases y <;> simp only [evJoin, reduceCtorEq] at e
    rename_i xs
    cases h : strs? xs with
    | none =>
      rw [h] at e
      cases e
    | some ys =>
      rw [h] at e
      simp only [Option.bind_some] at e
      split at e
      · cases e
        obtain ⟨a, vs, rfl, q1, z1, r1⟩ := hw.lst_inv r.bs.sub
        rw [strs_inv h] at r1
        obtain ⟨ev, hy⟩ := r1.strs
        subst ev
        exact ⟨s, a, ys, rfl, rfl, .inl (.inl (.inl q1)), ‹_›, p.here r (.str _ (strOk_join hs hy ‹_›)) rfl⟩
      · cases e
theorem spl_sub (S : List Nat) : ∀ (l : List Nat) (k : Nat) (acc : List Nat), ∀ p ∈ TL.spl S k acc l, p.Sublist (acc ++ l)
  | [], k, acc, p, hp => by
    rw [TL.spl_nil] at hp
    have e : p = acc := by simpa using hp
    rw [e, List.append_nil]
    exact List.Sublist.refl _
  | c :: r, 0, acc, p, hp => by
    unfold TL.spl at hp
    split at hp
    · rcases List.mem_cons.mp hp with e | hp
      · rw [e]
        exact List.sublist_append_left _ _
      · have q := spl_sub S r _ [] p hp
        rw [List.nil_append] at q
        exact (q.trans (List.sublist_cons_self _ _)).trans (List.sublist_append_right _ _)
    · have q := spl_sub S r 0 (acc ++ [c]) p hp
      rw [List.append_assoc] at q
      exact q
  | c :: r, k + 1, acc, p, hp => by
    unfold TL.spl at hp
    have q := spl_sub S r k acc p hp
    exact q.trans (List.Sublist.append (List.Sublist.refl _) (List.sublist_cons_self _ _))
theorem ok_split : MeOk u .split (fun x xs H Q => ∃ a b, x = .str a ∧ xs = [.str b] ∧ (b.length == 0) = false ∧ a.length + 2 ≤ sizeLine ∧ rNewStrs (Txt.split a b) H Q) :=
  me1 (fun _ _ => rfl) fun g env S σ H s w y d Q r hs hw e p => by
    cases y <;> simp only [evSplit, reduceCtorEq] at e
    rename_i t
    split at e
    · rename_i h
      obtain ⟨h1, h2, h3⟩ := h
      cases e
      obtain ⟨rfl, ht⟩ := hw.str_inv
      refine ⟨s, t, rfl, rfl, by simpa using h1, h2, fun p' np => ?_⟩
      have hne : TL.tl t ≠ [] := fun z => h1 (by rw [TL.len_tl, z]; rfl)
      have e2 := TL.split_spl s t hne (TL.kind_ok h3)
      have e3 : Txt.split s t = (TL.spl (TL.tl t) 0 [] (TL.tl s)).map fun l => (⟨l.toArray⟩ : Str) := TL.map_tl_inj (by
        rw [e2, List.map_map]
        symm
        rw [show (TL.tl ∘ fun l : List Nat => (⟨l.toArray⟩ : Str)) = id from rfl, List.map_id])
      rw [e3]
      have hp : ∀ q ∈ (TL.spl (TL.tl t) 0 [] (TL.tl s)).map fun l => (⟨l.toArray⟩ : Str), strOk q := fun q hq => by
        obtain ⟨l, hl, rfl⟩ := List.mem_map.mp hq
        have z := spl_sub _ _ _ _ l hl
        rw [List.nil_append] at z
        exact strOk_sub hs z
      have rr := Reps.of_strs (K := u.K) (ca := u.ca) (g := g) _ hp
      refine p.lst r (ds := (TL.spl (TL.tl t) 0 [] (TL.tl s)).map fun l => .str ⟨l.toArray⟩) ?_ ?_ np
      · rw [List.map_map] at rr
        rw [List.map_map] at rr ⊢
        exact rr
      · rw [List.length_map, List.length_map]
        have len : ∀ (l : List Nat) (k : Nat) (acc : List Nat), (TL.spl (TL.tl t) k acc l).length ≤ l.length + 1 := fun l => by
          induction l with
          | nil =>
            intro k acc
            rw [TL.spl_nil]
            simp
          | cons c r ih =>
            intro k acc
            cases k with
            | zero =>
              unfold TL.spl
              split
              · rw [List.length_cons, List.length_cons]
                have := ih ((TL.tl t).length - 1) []
                omega
              · rw [List.length_cons]
                have := ih 0 (acc ++ [c])
                omega
            | succ k =>
              unfold TL.spl
              rw [List.length_cons]
              have := ih k acc
              omega
        have q := len (TL.tl s) 0 []
        rw [← TL.len_tl] at q
        omega
    · cases e
theorem par_sub (S : List Nat) : ∀ (l acc : List Nat) (x y : List Nat), TL.par S acc l = some (x, y) → x.Sublist (acc ++ l) ∧ y.Sublist l
  | [], acc, x, y, h => by cases h
  | c :: r, acc, x, y, h => by
    cases q : TL.pre S (c :: r) with
    | true =>
      rw [TL.par_hit q] at h
      cases h
      exact ⟨List.sublist_append_left _ _, List.drop_sublist _ _⟩
    | false =>
      rw [TL.par_miss q] at h
      obtain ⟨h1, h2⟩ := par_sub S r (acc ++ [c]) x y h
      rw [List.append_assoc] at h1
      exact ⟨h1, h2.trans (List.sublist_cons_self _ _)⟩
theorem strOk_empty : strOk Str.empty := strOk_mk (l := []) (Nat.zero_le _) fun _ h => nomatch h
theorem ok_part : MeOk u .partition (fun x xs H Q => ∃ a b, x = .str a ∧ xs = [.str b] ∧ (b.length == 0) = false ∧ a.length ≤ sizeLine ∧ ∀ p, H p = none → Q (.ref p) (upd H p (.tup [.str (Txt.partition a b).1, .str (Txt.partition a b).2.1, .str (Txt.partition a b).2.2]))) :=
  me1 (fun _ _ => rfl) fun g env S σ H s w y d Q r hs hw e p => by
    cases y <;> simp only [evPart, reduceCtorEq] at e
    rename_i t
    split at e
    · rename_i h
      obtain ⟨h1, h2⟩ := h
      obtain ⟨rfl, ht⟩ := hw.str_inv
      refine ⟨s, t, rfl, rfl, by simpa using h1, h2, fun p' np => ?_⟩
      have hne : TL.tl t ≠ [] := fun z => h1 (by rw [TL.len_tl, z]; rfl)
      rw [TL.partition_par s t hne]
      cases q : TL.par (TL.tl t) [] (TL.tl s) with
      | none =>
        rw [q] at e
        cases e
        exact p.tup r (.cons (.str _ hs) (.cons (.str _ strOk_empty) (.cons (.str _ strOk_empty) .nil))) (by show 3 ≤ sizeLine; decide) np
      | some xy =>
        obtain ⟨x, y⟩ := xy
        rw [q] at e
        cases e
        obtain ⟨s1, s2⟩ := par_sub _ _ _ _ _ q
        exact p.tup r (.cons (.str _ (strOk_sub hs s1)) (.cons (.str _ ht) (.cons (.str _ (strOk_sub hs s2)) .nil))) (by show 3 ≤ sizeLine; decide) np
    · cases e
theorem me_rule (hK : u.K = X.K) (m : Me) : ∃ r, MtR X (meId m) r ∧ MeOk u m r := by
  cases m with
  | join => exact ⟨_, mt_join, by rw [← hK]; exact ok_join⟩
  | split => exact ⟨_, mt_split, ok_split⟩
  | partition => exact ⟨_, mt_partition, ok_part⟩
theorem me_slot (m : Me) : Slot "str" (meName m) (meId m) ∧ typeOf (.builtin (meId m)) = pure (.type "method_descriptor") := by
  cases m with
  | join => exact ⟨PySem.F.slot_str_join, PySem.F.type_str_join⟩
  | split => exact ⟨PySem.F.slot_str_split, PySem.F.type_str_split⟩
  | partition => exact ⟨PySem.F.slot_str_partition, PySem.F.type_str_partition⟩
end
end VE

set_option Elab.async false
set_option linter.all false
set_option maxRecDepth 100000
set_option maxHeartbeats 4000000
/-! VS, part 4: sorted(set(xs)) of pairs, over the layer and by the evaluator's data. -/
namespace VE
open PySem PySem.Spec PyProof.Rows L2 VS

theorem Pk.key_inj {b : Bool} {q r : Pk b} (h : q.key = r.key) : q = r := by
  obtain ⟨⟨i, x⟩, hx⟩ := q
  obtain ⟨⟨j, y⟩, hy⟩ := r
  have h1 : i = j := (List.cons.inj (show [i, x.k] = [j, y.k] from h)).1
  have h2 : x.k = y.k := (List.cons.inj (List.cons.inj (show [i, x.k] = [j, y.k] from h)).2).1
  subst h1
  clear h
  have e : x = y := by
    cases x with
    | i n =>
      cases y with
      | i m =>
        have h : n = m := h2
        rw [h]
      | b k => cases b <;> first | exact absurd hx Bool.false_ne_true | exact absurd hy Bool.false_ne_true
    | b k =>
      cases y with
      | i m => cases b <;> first | exact absurd hx Bool.false_ne_true | exact absurd hy Bool.false_ne_true
      | b k2 => cases k <;> cases k2 <;> first | rfl | exact absurd h2 (by decide)
  subst e
  rfl
theorem Pk.le_trans {b : Bool} (q r s : Pk b) (h : q.le r = true) (h2 : r.le s = true) : q.le s = true := by
  unfold Pk.le at *
  rw [decide_eq_true_eq] at *
  omega
theorem Pk.le_total {b : Bool} (q r : Pk b) : (q.le r || r.le q) = true := by
  unfold Pk.le
  rw [Bool.or_eq_true, decide_eq_true_eq, decide_eq_true_eq]
  omega
theorem Pk.le_anti {b : Bool} {q r : Pk b} (h : q.le r = true) (h2 : r.le q = true) : q = r := by
  unfold Pk.le at *
  rw [decide_eq_true_eq] at *
  refine Pk.key_inj ?_
  have e1 : q.1.1 = r.1.1 := by omega
  have e2 : q.1.2.k = r.1.2.k := by omega
  show [q.1.1, q.1.2.k] = [r.1.1, r.1.2.k]
  rw [e1, e2]
theorem sort_perm {b : Bool} {l l' : List (Pk b)} (h : l.Perm l') : l.mergeSort Pk.le = l'.mergeSort Pk.le :=
  List.Perm.eq_of_pairwise (le := fun q r => q.le r = true) (fun q r _ _ a c => Pk.le_anti a c) (List.pairwise_mergeSort Pk.le_trans Pk.le_total l) (List.pairwise_mergeSort Pk.le_trans Pk.le_total l') ((List.mergeSort_perm l _).trans (h.trans (List.mergeSort_perm l' _).symm))
theorem unPk_d {b : Bool} {x : D} {q : Pk b} (h : unPk b x = some q) : x = q.d := by
  unfold unPk at h
  split at h
  · cases h
    rfl
  · cases h
    rfl
  · cases h
theorem unPks_map {b : Bool} : ∀ {xs : List D} {qs : List (Pk b)}, unPks b xs = some qs → xs = qs.map Pk.d
  | [], _, h => by
    cases h
    rfl
  | x :: xs, qs, h => by
    unfold unPks at h
    cases e1 : unPk b x with
    | none =>
      rw [e1] at h
      cases h
    | some q =>
      cases e2 : unPks b xs with
      | none =>
        rw [e1, e2] at h
        cases h
      | some rs =>
        rw [e1, e2] at h
        cases h
        rw [List.map_cons, unPk_d e1, ← unPks_map e2]
theorem lt_bool (a c : Bool) : PySem.W.dataLt (.bool a) (.bool c) = (!a && c) := by cases a <;> cases c <;> decide +kernel
theorem le_data (b : Bool) : PySem.W.dataLe false (Pk.p (b := b)) = Pk.le := by
  funext q r
  rw [PySem.W.dataLe_eq]
  obtain ⟨⟨i, x⟩, hx⟩ := q
  obtain ⟨⟨j, y⟩, hy⟩ := r
  show (!PySem.W.dataLt (.tuple [.int j, y.p]) (.tuple [.int i, x.p])) = decide (i < j ∨ (i = j ∧ x.k ≤ y.k))
  cases x <;> cases y <;> cases b <;> first
    | exact absurd hx Bool.false_ne_true
    | exact absurd hy Bool.false_ne_true
    | skip
  · show (!PySem.W.dataLt (.tuple [.int j, .int _]) (.tuple [.int i, .int _])) = decide (i < j ∨ (i = j ∧ _ ≤ _))
    rw [PySem.W.dataLt_ii, ← decide_not, decide_eq_decide]
    simp only [Sc.k]
    omega
  · rename_i c e
    show (!PySem.W.dataLt (.tuple [.int j, .bool e]) (.tuple [.int i, .bool c])) = decide (i < j ∨ (i = j ∧ (if c = true then (1 : Int) else 0) ≤ (if e = true then 1 else 0)))
    rw [PySem.W.dataLt_pair (by simp [PySem.W.alike]) (by simp [PySem.W.alike]), PySem.W.dataLt_int, lt_bool]
    simp only [PyData.eqv, beq_iff_eq]
    by_cases h : j = i
    · subst h
      rw [if_pos rfl]
      cases c <;> cases e <;> simp
    · rw [if_neg h, ← decide_not, decide_eq_decide]
      omega
section
variable {X : Cx} {u : Su} {K : PySem.W.Frag} {ca : Nat → Addr} {g : Gh} {H : Hp}
/-- a pair as it lies -/
theorem rep_pk {b : Bool} {q : Pk b} {v : V} (h : Rep K ca g v q.d) : ∃ a, v = .ref a ∧ SqT K g.G a [.int q.1.1, q.1.2.v] := by
  obtain ⟨a, vs, rfl, s, _, r⟩ := Rep.tup_inv h
  refine ⟨a, rfl, ?_⟩
  cases r with
  | cons r1 t =>
    cases t with
    | cons r2 t =>
      cases t
      cases r1
      have e : ∀ {w : V}, Rep K ca g w q.1.2.d → w = q.1.2.v := fun {w} h => by
        cases z : q.1.2 with
        | i n =>
          rw [z] at h
          cases h
          rfl
        | b k =>
          rw [z] at h
          cases h
          rfl
      rw [← e r2]
      exact s
theorem pk_at {pins : List (Addr × Obj)} {σ : L2.St} {s : Shared} {b : Bool} {q : Pk b} {a : Addr} (I : Inv X pins σ H s) (h : SqT X.K H a [.int q.1.1, q.1.2.v]) : IsX X.prog X.w s.heap q.key a ∧ Reads s.heap (.ref a) q.p [] := by
  obtain ⟨its, r, ⟨o, ho, hc, n, hd⟩, _⟩ := I.tuple h
  cases r with
  | @cons _ u1 _ _ r1 t =>
    cases t with
    | @cons _ u2 _ _ r2 t =>
      cases t
      obtain ⟨t1, rfl⟩ := r1
      have two : isM q.1.2.k u2 = true ∧ Reads s.heap u2 q.1.2.p [] := by
        cases z : q.1.2 with
        | i m =>
          rw [z] at r2
          obtain ⟨t2, rfl⟩ := r2
          exact ⟨decide_eq_true rfl, .int _ _⟩
        | b k =>
          rw [z] at r2
          obtain rfl : u2 = Value.bool k := r2
          exact ⟨decide_eq_true rfl, .bool _⟩
      refine ⟨⟨o, _, n, ho, hc, hd, ?_⟩, ?_⟩
      · refine .cons (show isM q.1.1 (.int q.1.1 t1) = true from decide_eq_true rfl) (.cons two.1 .nil)
      · have al : ReadsAll s.heap [.int q.1.1 t1, u2] [.int q.1.1, q.1.2.p] ([] ++ ([] ++ [])) := .cons (.int _ _) (.cons two.2 .nil)
        exact .tuple ho hc hd (by simpa using al)
/-- a set at a, the tuples themselves left out -/
def SxAt (P : Program) (w : World) (h : Heap) (a : Addr) (M : List (Addr × List Int)) : Prop := ∃ (es : Array (Int × Value)) (ep : Nat) (t : SetTable), (∃ o, h.get? a = some o ∧ o.ExactSet ∧ o.data = .set es ep t) ∧ es.toList = entX P w M ∧ TabOk t (hsX P w M) ∧ (M.map (·.2)).Nodup ∧
  (t.plain = true ∧ (w.params.followText "set-order" = true ∨ t.led = true)) ∧ (M.length * 5 < t.mask * 3 ∧ M.length < 64)
def SxO (P : Program) (w : World) (a : Addr) (M : List (Addr × List Int)) : HO := .ext fun h => SxAt P w h a M
theorem sx_ok {P : Program} {w : World} {h : Heap} {a : Addr} {M : List (Addr × List Int)} (R : SxAt P w h a M) : ObjOk P w H h a (SxO P w a M) := by
  have ⟨es, ep, t, ⟨o, ho, r⟩, z⟩ := R
  refine ⟨R, ⟨o, ho⟩, fun h1 h2 p k => ?_⟩
  have ⟨es', ep', t', ⟨o', ho', r'⟩, z'⟩ := p
  exact ⟨es', ep', t', ⟨o', k o' ho', r'⟩, z'⟩
def rSetX (K : PySem.W.Frag) (P : Program) (w : World) (b : Bool) : List V → Hp → VK → Prop := fun xs H Q => ∃ (l : Addr) (ks : List (Addr × Pk b)), xs = [V.ref l] ∧ H l = some (.lst (ks.map fun p => V.ref p.1)) ∧ (∀ p ∈ ks, SqT K H p.1 [.int p.2.1.1, p.2.1.2.v]) ∧ ks.length < 64 ∧
  ∀ (a : Addr) (N : List (Addr × Pk b)), H a = none → (∀ p ∈ N, p ∈ ks) → (∀ p ∈ ks, p.2 ∈ N.map (·.2)) → (N.map (·.2)).Nodup → Q (.ref a) (upd H a (SxO P w a (N.map fun p => (p.1, p.2.key))))
theorem cr_setX (b : Bool) (hc : X.calm = true) (hu : X.A.units + 66 < cLine) : CallR X (.type "set") (rSetX X.K X.prog X.w b) := by
  intro pins s σ H xs us Q I rv h
  obtain ⟨l, ks, rfl, hl, hk, few, q⟩ := h
  obtain ⟨u1, rfl, ru⟩ := vals1 rv
  obtain rfl : u1 = Value.ref l := ru
  obtain ⟨its, ri, pl, hz⟩ := I.list (xs := ks.map fun p => V.ref p.1) (.inl (.inl hl))
  have ei : its = (ks.map fun p => (p.1, p.2.key)).map fun p => Value.ref p.1 := by
    have key : ∀ {ks : List (Addr × Pk b)} {us : List Value}, Vals (ks.map fun p => V.ref p.1) us → us = (ks.map fun p => (p.1, p.2.key)).map fun p => Value.ref p.1 := by
      intro ks
      induction ks with
      | nil =>
        intro us h
        cases h
        rfl
      | cons p ks ih =>
        intro us h
        cases h with
        | cons r t =>
          rw [ih t]
          cases r
          rfl
    exact key ri
  have hn : H s.heap.objs.size = none := I.hok.fresh (Nat.le_refl _)
  refine call_setX (P := X.prog) (w := X.w) (ks.map fun p => (p.1, p.2.key)) (I.ok.hd hc) pl.isList (by simpa using ei) (fun p hp => ?_) (by rw [List.length_map]; exact few) (by omega) fun h' tk M es ep t T got k => ?_
  · obtain ⟨q0, hq, rfl⟩ := List.mem_map.mp hp
    exact (pk_at I (hk q0 hq)).1
  · have sub : ∀ p ∈ M, p ∈ ks.map fun p => (p.1, p.2.key) := fun p hp => List.mem_of_mem_take (got.sub p hp)
    obtain ⟨N, eN, sN⟩ : ∃ N : List (Addr × Pk b), M = N.map (fun p => (p.1, p.2.key)) ∧ ∀ p ∈ N, p ∈ ks := by
      have key : ∀ M : List (Addr × List Int), (∀ p ∈ M, p ∈ ks.map fun p => (p.1, p.2.key)) → ∃ N : List (Addr × Pk b), M = N.map (fun p => (p.1, p.2.key)) ∧ ∀ p ∈ N, p ∈ ks := by
        intro M
        induction M with
        | nil => exact fun _ => ⟨[], rfl, fun _ z => nomatch z⟩
        | cons p M ih =>
          intro h
          obtain ⟨N, e, sN⟩ := ih fun x hx => h x (List.mem_cons_of_mem _ hx)
          obtain ⟨q0, hq, e0⟩ := List.mem_map.mp (h p List.mem_cons_self)
          refine ⟨q0 :: N, by rw [List.map_cons, e, e0], fun x hx => ?_⟩
          rcases List.mem_cons.mp hx with z | z
          · rw [z]
            exact hq
          · exact sN x z
      exact key M sub
    subst eN
    have keys : (N.map fun p => (p.1, p.2.key)).map (·.2) = (N.map (·.2)).map Pk.key := by rw [List.map_map, List.map_map]; rfl
    refine ⟨.ref s.heap.objs.size, upd H s.heap.objs.size (SxO X.prog X.w s.heap.objs.size (N.map fun p => (p.1, p.2.key))), I.laid (t' := tk) k (Nat.le_refl _) (sx_ok ⟨es, ep, t, T.at_, T.ent, T.tab, T.key, T.sound, T.room⟩), rfl, q _ N hn sN (fun p hp => ?_) ?_⟩
    · have m := got.all (p.1, p.2.key) (by rw [List.take_length]; exact List.mem_map.mpr ⟨p, hp, rfl⟩)
      rw [keys] at m
      obtain ⟨r, hr, er⟩ := List.mem_map.mp m
      rw [← Pk.key_inj er]
      exact hr
    · have nd := T.key
      rw [keys] at nd
      exact List.Pairwise.of_map _ (fun _ _ ne e => ne (congrArg Pk.key e)) nd
def rSortX (K : PySem.W.Frag) (P : Program) (w : World) (b : Bool) : List V → Hp → VK → Prop := fun vs H Q => ∃ (a : Addr) (N : List (Addr × Pk b)), vs = [V.ref a] ∧ H a = some (SxO P w a (N.map fun p => (p.1, p.2.key))) ∧ (∀ p ∈ N, SqT K H p.1 [.int p.2.1.1, p.2.1.2.v]) ∧
  ∀ (L : List (Addr × Pk b)) (p : Addr), (∀ x ∈ L, x ∈ N) → L.map (·.2) = (N.map (·.2)).mergeSort Pk.le → H p = none → Q (.ref p) (upd H p (.lst (L.map fun x => V.ref x.1)))
theorem cr_sortX (b : Bool) (hc : X.calm = true) (hu : X.A.units + 66 < cLine) : CallR X (.builtin "sorted") (rSortX X.K X.prog X.w b) := by
  intro pins s σ H vs us Q I rv h
  obtain ⟨a, N, rfl, ha, hk, q⟩ := h
  obtain ⟨u1, rfl, ru⟩ := vals1 rv
  obtain rfl : u1 = Value.ref a := ru
  obtain ⟨es, ep, t, a1, a2, a3, a4, a5, a6⟩ : SxAt X.prog X.w s.heap a (N.map fun p => (p.1, p.2.key)) := (I.hok a _ ha).1
  have T : TSet X.prog X.w s.heap a (N.map fun p => (p.1, p.2.key)) es ep t := ⟨a1, a2, a3, a4, fun p hp => by
    obtain ⟨q0, hq, rfl⟩ := List.mem_map.mp hp
    exact (pk_at I (hk q0 hq)).1, a5, a6⟩
  classical
  let back : Addr × List Int → Option (Pk b) := fun x => (N.find? fun p => decide (p.1 = x.1 ∧ p.2.key = x.2)).map (·.2)
  have bk : ∀ p ∈ N, back (p.1, p.2.key) = some p.2 := fun p hp => by
    have e : ∃ r, N.find? (fun r => decide (r.1 = p.1 ∧ r.2.key = p.2.key)) = some r := by
      cases z : N.find? (fun r => decide (r.1 = p.1 ∧ r.2.key = p.2.key)) with
      | some r => exact ⟨r, rfl⟩
      | none =>
        have := List.find?_eq_none.mp z p hp
        simp at this
    obtain ⟨r, e⟩ := e
    have := List.find?_some e
    simp only [decide_eq_true_eq] at this
    show (N.find? fun r => decide (r.1 = p.1 ∧ r.2.key = p.2.key)).map (·.2) = _
    rw [e]
    exact congrArg some (Pk.key_inj this.2)
  by_cases em : N = []
  · -- nothing is in it
    subst em
    refine call_sortX (β := Pk b) (enc := Pk.p) T (I.ok.hd hc) (fun _ => if h : b = true then ⟨(0, .b true), by rw [h]; rfl⟩ else ⟨(0, .i 0), by
      cases b
      · rfl
      · exact absurd rfl h⟩) (fun p hp => nomatch hp) ?_ ?_ ?_ hu fun s' p out c M' k g o hp hg pm eo => ?_
    · intro x y
      obtain ⟨⟨i, x⟩, hx⟩ := x
      obtain ⟨⟨j, y⟩, hy⟩ := y
      cases x <;> cases y <;> cases b <;> first
        | exact absurd hx Bool.false_ne_true
        | exact absurd hy Bool.false_ne_true
        | simp [Pk.p, Sc.p, PySem.W.alike, PySem.W.alikeAll]
    · exact fun x => ⟨_, _, rfl⟩
    · intro x
      obtain ⟨⟨i, x⟩, hx⟩ := x
      cases x <;> exact Nat.le_refl 1
    · have em : M' = [] := pm.eq_nil
      subst em
      have eo2 : out.toList = [] := by
        have := eo.length
        simpa using this
      have hn : H p = none := I.hok.fresh hp
      have J : Inv X pins σ (upd H p (.lst [])) { s with heap := s'.heap, gens := s'.gens, drawn := s'.drawn, toks := s'.toks } :=
        I.call (ch := []) (Un.laid k hp hn) (I.hok.laid k hp ⟨Nat.zero_le _, out.toList, c, by rw [eo2]; exact .nil, hg⟩) (by rw [g]; exact I.bare) (fun _ z => nomatch z)
      have e : s' = { s with heap := s'.heap, gens := s'.gens, drawn := s'.drawn, toks := s'.toks } := by
        cases s'
        cases s
        cases o
        rfl
      rw [e]
      exact ⟨.ref p, _, J, rfl, q [] p (fun _ z => nomatch z) (by rw [List.map_nil, List.mergeSort_nil]) hn⟩
  obtain ⟨n0, hn0⟩ := List.exists_mem_of_ne_nil N em
  refine call_sortX (β := Pk b) (enc := Pk.p) T (I.ok.hd hc) (fun x => (back x).getD n0.2) (fun p hp => ?_) ?_ ?_ ?_ hu fun s' p out c M' k g o hp hg pm eo => ?_
  · obtain ⟨q0, hq, rfl⟩ := List.mem_map.mp hp
    show Reads _ _ (Pk.p ((back (q0.1, q0.2.key)).getD n0.2)) []
    rw [bk q0 hq]
    exact (pk_at I (hk q0 hq)).2
  · intro x y
    obtain ⟨⟨i, x⟩, hx⟩ := x
    obtain ⟨⟨j, y⟩, hy⟩ := y
    cases x <;> cases y <;> cases b <;> first
      | exact absurd hx Bool.false_ne_true
      | exact absurd hy Bool.false_ne_true
      | simp [Pk.p, Sc.p, PySem.W.alike, PySem.W.alikeAll]
  · exact fun x => ⟨_, _, rfl⟩
  · intro x
    obtain ⟨⟨i, x⟩, hx⟩ := x
    cases x <;> exact Nat.le_refl 1
  · rw [le_data] at eo
    have pm2 : (M'.map fun x => (back x).getD n0.2).Perm (N.map (·.2)) := by
      have := pm.map fun x => (back x).getD n0.2
      rw [List.map_map] at this
      have e : N.map ((fun x => (back x).getD n0.2) ∘ fun p => (p.1, p.2.key)) = N.map (·.2) := by
        refine List.map_congr_left fun x hx => ?_
        show (back (x.1, x.2.key)).getD n0.2 = _
        rw [bk x hx]
        rfl
      rw [e] at this
      exact this
    rw [sort_perm pm2] at eo
    obtain ⟨L, eL, sL, mL⟩ : ∃ L : List (Addr × Pk b), out.toList = L.map (fun x => Value.ref x.1) ∧ (∀ x ∈ L, x ∈ N) ∧ L.map (·.2) = (N.map (·.2)).mergeSort Pk.le := by
      have key : ∀ {us : List Value} {bs : List (Pk b)}, PySem.W.EachIs (fun v d => ∃ x ∈ N.map fun p => (p.1, p.2.key), v = Value.ref x.1 ∧ (back x).getD n0.2 = d) us bs → ∃ L : List (Addr × Pk b), us = L.map (fun x => Value.ref x.1) ∧ (∀ x ∈ L, x ∈ N) ∧ L.map (·.2) = bs := by
        intro us bs h
        induction h with
        | nil => exact ⟨[], rfl, (fun _ z => nomatch z), rfl⟩
        | cons h1 t ih =>
          obtain ⟨x, hx, rfl, hb⟩ := h1
          obtain ⟨L, b1, b2, b3⟩ := ih
          obtain ⟨q0, hq, rfl⟩ := List.mem_map.mp hx
          rw [bk q0 hq] at hb
          refine ⟨q0 :: L, by rw [List.map_cons, b1], fun y hy => ?_, by rw [List.map_cons, b3]; exact congrArg (· :: _) hb⟩
          rcases List.mem_cons.mp hy with z | z
          · rw [z]
            exact hq
          · exact b2 y z
      exact key eo
    have hn : H p = none := I.hok.fresh hp
    have lL : L.length = N.length := by
      have := congrArg List.length mL
      rw [List.length_map, List.length_mergeSort, List.length_map] at this
      exact this
    have few : N.length < 64 := by
      have := T.room.2
      rw [List.length_map] at this
      exact this
    have vs : Vals (L.map fun x => V.ref x.1) out.toList := by
      rw [eL]
      have key : ∀ L : List (Addr × Pk b), Vals (L.map fun x => V.ref x.1) (L.map fun x => Value.ref x.1) := fun L => by
        induction L with
        | nil => exact .nil
        | cons x L ih => exact .cons rfl ih
      exact key L
    have J : Inv X pins σ (upd H p (.lst (L.map fun x => V.ref x.1))) { s with heap := s'.heap, gens := s'.gens, drawn := s'.drawn, toks := s'.toks } :=
      I.call (ch := []) (Un.laid k hp hn) (I.hok.laid k hp ⟨by rw [List.length_map, lL, sizeLine_eq]; omega, out.toList, c, vs, hg⟩) (by rw [g]; exact I.bare) (fun _ z => nomatch z)
    have e : s' = { s with heap := s'.heap, gens := s'.gens, drawn := s'.drawn, toks := s'.toks } := by
      cases s'
      cases s
      cases o
      rfl
    rw [e]
    exact ⟨.ref p, _, J, rfl, q L p sL mL hn⟩
end
end VE

set_option Elab.async false
set_option linter.all false
set_option maxRecDepth 100000
set_option maxHeartbeats 4000000
/-! VE, part 7: the check of own syntax against the row's, and that the evaluator tells what expressions do. -/
namespace VE
open PySem PySem.Spec PyProof.Rows L2

structure Pg where
  gn : List Str
  gl : List D
  fnn : List Str
  fns : List Fn
  /-- classes: names, fields -/
  cls : List (Str × List Str)
  /-- which def is a method, of which class -/
  mts : List (Option (Nat × Str))
  /-- dicts of the module, texts to ints -/
  dts : List (Str × List (Str × Int))
inductive Md where
  | use | peek | test | it
  deriving DecidableEq
def notStar : Expr → Bool
  | .Starred _ _ => false
  | _ => true
def notCall0 : Expr → Bool
  | .Call (.Name _ _) [] [] _ => false
  | _ => true
def notSlice : Expr → Bool
  | .Slice _ _ _ _ => false
  | _ => true
def notSet : Expr → Bool
  | .Set _ _ _ => false
  | _ => true
def visB (sc : Scope) (x : Str) : Bool := decide (sc.names.lookup x = some .local) || (decide (sc.names.lookup x = some .cell) || decide (sc.names.lookup x = some .free))
def locB (sc : Scope) (x : Str) : Bool := decide (sc.names.lookup x = some .local) || decide (sc.names.lookup x = some .cell)
def gloB (sc : Scope) (x : Str) : Bool := decide (sc.names.lookup x = some .globalImplicit)
def plainN (x : Str) : Bool := !(x == ("__debug__" : Str)) && (!(x == ("__classdict__" : Str)) && decide (x ≠ "__name__"))
def strOkB (s : Str) : Bool := decide (s.length ≤ sizeLine) && s.cps.all (· < 0x110000)
theorem strOkB_ok {s : Str} (h : strOkB s = true) : strOk s := by
  unfold strOkB at h
  rw [Bool.and_eq_true, decide_eq_true_eq] at h
  exact h
def tyName : Ty → Str
  | .int => "int" | .bool => "bool" | .str => "str" | .list => "list" | .tuple => "tuple"
def tyId : Ty → String
  | .int => "int" | .bool => "bool" | .str => "str" | .list => "list" | .tuple => "tuple"

/-! ### targets -/
mutual
def chkTg (N : List Str) (st : Str → Bool) : Tg → Expr → Bool
  | .n i, .Name x _ => decide (N[i]? = some x) && st x
  | .t gs, .Tuple es _ _ => chkTgs N st gs es
  | _, _ => false
def chkTgs (N : List Str) (st : Str → Bool) : List Tg → List Expr → Bool
  | [], [] => true
  | g :: gs, e :: es => notStar e && (chkTg N st g e && chkTgs N st gs es)
  | _, _ => false
end
def gT (u : Su) (tg : Tg) : TG := fun v σ H Q => ∃ g env S d env', u.SR g env S σ H ∧ Rep u.K u.ca g v d ∧ Tg.set tg d env = some env' ∧ ∀ σ', SR u.K u.ca u.g0 u.H0 (frzs u.o tg.slots) g env' S σ' H → σ'.length = σ.length → (∀ i, i ∉ tg.slots → σ'[i]? = σ[i]?) → Q σ' H
def gTs (u : Su) (tgs : List Tg) : TGs := fun vs σ H Q => ∃ g env S ds env', u.SR g env S σ H ∧ Reps u.K u.ca g vs ds ∧ Tg.sets tgs ds env = some env' ∧ ∀ σ', SR u.K u.ca u.g0 u.H0 (frzs u.o (Tg.slotss tgs)) g env' S σ' H → σ'.length = σ.length → (∀ i, i ∉ Tg.slotss tgs → σ'[i]? = σ[i]?) → Q σ' H
theorem frzs_append : ∀ (a b : List Nat) (o : List Bool), frzs o (a ++ b) = frzs (frzs o a) b
  | [], _, _ => rfl
  | i :: a, b, o => frzs_append a b (o.set i false)
/-- names that may be stored -/
structure StOk (X : Cx) (st : Str → Bool) : Prop where
  nd : X.N.Nodup
  calm : X.calm = true
  loc : ∀ x, st x = true → Loc X.env.scope x ∧ (X.fn x = true ∨ X.env.scope.names.lookup x = some .local)
theorem assignEach_len : ∀ (es : List Expr) (env : PySem.Env), (assignEach es env).length = es.length
  | [], _ => rfl
  | e :: es, env => by
    have ih := assignEach_len es env
    cases e <;> simp [assignEach, ih]
theorem assignEach_cons {e : Expr} (h : notStar e = true) (es : List Expr) (env : PySem.Env) : assignEach (e :: es) env = (false, assign e env) :: assignEach es env := by
  cases e <;> first | rfl | cases h
theorem sets_len : ∀ {gs : List Tg} {ds : List D} {env env' : Env}, Tg.sets gs ds env = some env' → gs.length = ds.length
  | [], [], _, _, _ => rfl
  | [], _ :: _, _, _, h => by simp [Tg.sets] at h
  | _ :: _, [], _, _, h => by simp [Tg.sets] at h
  | g :: gs, d :: ds, env, env', h => by
    simp only [Tg.sets] at h
    cases q : Tg.set g d env with
    | none =>
      rw [q] at h
      cases h
    | some e1 =>
      rw [q] at h
      rw [List.length_cons, List.length_cons, sets_len h]
theorem chkTgs_len {N : List Str} {st : Str → Bool} : ∀ {gs : List Tg} {es : List Expr}, chkTgs N st gs es = true → gs.length = es.length
  | [], [], _ => rfl
  | [], _ :: _, h => by simp [chkTgs] at h
  | _ :: _, [], h => by simp [chkTgs] at h
  | g :: gs, e :: es, h => by
    simp only [chkTgs, Bool.and_eq_true] at h
    rw [List.length_cons, List.length_cons, chkTgs_len h.2.2]
theorem chkTgs_plain {N : List Str} {st : Str → Bool} {env : PySem.Env} : ∀ {gs : List Tg} {es : List Expr}, chkTgs N st gs es = true → (assignEach es env).findIdx? (·.1) = none
  | [], [], _ => rfl
  | [], _ :: _, h => by simp [chkTgs] at h
  | _ :: _, [], h => by simp [chkTgs] at h
  | g :: gs, e :: es, h => by
    simp only [chkTgs, Bool.and_eq_true] at h
    rw [assignEach_cons h.1, List.findIdx?_cons, chkTgs_plain h.2.2]
    rfl
mutual
theorem pgT {X : Cx} {st : Str → Bool} (so : StOk X st) : ∀ (tg : Tg) {u : Su} {e : Expr}, u.K = X.K → chkTg X.N st tg e = true → PG X e (gT u tg)
  | .n i, u, e, hK, h => by
    cases e <;> simp only [chkTg, Bool.false_eq_true, Bool.and_eq_true, decide_eq_true_eq] at h
    obtain ⟨h1, h2⟩ := so.loc _ h.2
    have p := pg_name (pos := ‹Pos›) so.nd h.1 h1 (by assumption)
    refine ⟨fun pins s σ H v w Q I r ⟨g, env, S, d, env', sr, rp, hs, q⟩ => p.run pins s σ H v w Q I r ?_⟩
    have e1 : env' = env.set i (some d) := (Option.some.inj hs).symm
    subst e1
    refine q _ (sr.store i rp) (by rw [List.length_set]) fun j hj => ?_
    have nj : i ≠ j := fun z => hj (by rw [z]; simp [Tg.slots])
    rw [List.getElem?_set_ne nj]
  | .t gs, u, e, hK, h => by
    cases e <;> simp only [chkTg, Bool.false_eq_true] at h
    rename_i es k pos
    have p := pg_tup (k := k) (pos := pos) so.calm (pgTs so gs hK h) (n := es.length) (assignEach_len es X.env) (chkTgs_plain h)
    refine ⟨fun pins s σ H v w Q I r ⟨g, env, S, d, env', sr, rp, hs, q⟩ => p.run pins s σ H v w Q I r ?_⟩
    cases d <;> simp only [Tg.set, reduceCtorEq] at hs
    rename_i ds
    obtain ⟨a, vs, rfl, q1, z1, r1⟩ := rp.tup_inv
    refine ⟨a, vs, rfl, SqT.mono sr.bs.sub (by rw [← hK]; exact q1), ?_, g, env, S, ds, env', sr, r1, hs, fun σ' s1 s2 s3 => q σ' s1 s2 s3⟩
    rw [r1.length, ← sets_len hs, chkTgs_len h]
theorem pgTs {X : Cx} {st : Str → Bool} (so : StOk X st) : ∀ (gs : List Tg) {u : Su} {es : List Expr}, u.K = X.K → chkTgs X.N st gs es = true → PGs X es (gTs u gs)
  | [], u, es, hK, h => by
    cases es with
    | nil =>
      refine ⟨fun pins s σ H vs us Q I r ⟨g, env, S, ds, env', sr, rp, hs, q⟩ => pgs_nil.run pins s σ H vs us Q I r ?_⟩
      have hl := sets_len hs
      cases ds with
      | nil =>
        cases rp
        cases hs
        exact ⟨rfl, q σ sr rfl fun _ _ => rfl⟩
      | cons d ds => cases hl
    | cons e es => simp [chkTgs] at h
  | g :: gs, u, es, hK, h => by
    cases es with
    | nil => simp [chkTgs] at h
    | cons e es =>
      simp only [chkTgs, Bool.and_eq_true] at h
      refine ⟨fun pins s σ H vs us Q I r ⟨gh, env, S, ds, env', sr, rp, hs, q⟩ =>
        (pgs_cons (pgT so g (u := u) hK h.2.1) (pgTs so gs (u := { u with o := frzs u.o g.slots }) hK h.2.2) (by rw [assignEach_cons h.1]; rfl)).run pins s σ H vs us Q I r ?_⟩
      cases ds with
      | nil => simp [Tg.sets] at hs
      | cons d ds =>
        simp only [Tg.sets] at hs
        cases e1 : Tg.set g d env with
        | none =>
          rw [e1] at hs
          cases hs
        | some env1 =>
          rw [e1] at hs
          cases rp with
          | cons r1 rs =>
            refine ⟨_, _, rfl, gh, env, S, d, env1, sr, r1, e1, fun σ1 s1 l1 k1 => ⟨gh, env1, S, ds, env', s1, rs, hs, fun σ2 s2 l2 k2 => q σ2 ?_ (l2.trans l1) fun i hi => ?_⟩⟩
            · have e2 : frzs u.o (Tg.slotss (g :: gs)) = frzs (frzs u.o g.slots) (Tg.slotss gs) := by
                show frzs u.o (g.slots ++ Tg.slotss gs) = _
                exact frzs_append _ _ _
              rw [e2]
              exact s2
            · have hi : i ∉ g.slots ++ Tg.slotss gs := hi
              rw [List.mem_append, not_or] at hi
              rw [k2 i hi.2, k1 i hi.1]
end

/-! ### the check -/
section
variable (p : Pg) (N : List Str) (o : List Bool)
/-- the scope of a comprehension's own names -/
def ownC (N : List Str) : List Nat → List (Str × Nat)
  | [] => []
  | i :: is => ((N.getD i Str.empty), i) :: ownC N is
def ownSt (scope : Scope) (x : Str) : Bool := decide (scope.names.lookup x = some .local) || decide (scope.names.lookup x = some .cell)
def isTup : Expr → Bool
  | .Tuple _ _ _ => true
  | _ => false
/-- what is asked of an iterable and its target -/
def itOk : T → Expr → Expr → Bool
  | .rng _, _, _ => true
  | .zip _ _, t, _ => isTup t
  | .enum _, t, _ => isTup t
  | _, _, e => notSet e
def Md.sub (m : Md) : Md := if m = .test then .test else .peek
def Md.sub2 (m : Md) : Md := if m = .test then .test else .use
/-- the slot i, named -/
def slotB (i : Nat) (sc : Scope) : Expr → Bool
  | .Name y _ => decide (N[i]? = some y) && (visB sc y && plainN y)
  | _ => false
/-- the field x of what the slot i holds, an instance of the class c -/
def fldB (c i : Nat) (x : Str) (sc : Scope) : Expr → Bool
  | .Attribute e nm _ => slotB N i sc e && (decide (nm = x) && (match p.cls[c]? with
    | some k => k.2.contains x
    | none => false))
  | _ => false
def ixB (k : Int) : Expr → Bool
  | .UnaryOp .USub (.Constant (.int j) _ _) _ => decide (k = -j)
  | .Constant (.int j) _ _ => decide (k = j)
  | _ => false
mutual
def chk : T → Md → Scope → Expr → Bool
  | .non, _, _, e => match e with
    | .Constant .none _ _ => true
    | _ => false
  | .bl b, _, _, e => match e with
    | .Constant (.bool c) _ _ => b == c
    | _ => false
  | .int i, _, _, e => match e with
    | .Constant (.int j) _ _ => decide (i = j)
    | _ => false
  | .str s, _, _, e => match e with
    | .Constant (.str z) _ _ => decide (s = z) && strOkB s
    | _ => false
  | .v i, m, sc, e => match e with
    | .Name x _ => decide (N[i]? = some x) && (visB sc x && (plainN x && (decide (m = .peek) || (decide (m = .test) || !own o i))))
    | _ => false
  | .g k, _, sc, e => match e with
    | .Name x _ => decide (p.gn[k]? = some x) && (gloB sc x && plainN x)
    | _ => false
  | .bin op a b, _, sc, e => match e with
    | .BinOp ea eop eb _ => decide (eop = pyOp op) && (chk a .peek sc ea && chk b .peek sc eb)
    | _ => false
  | .neg a, _, sc, e => match e with
    | .UnaryOp .USub ea _ => chk a .peek sc ea
    | _ => false
  | .no a, m, sc, e => match e with
    | .UnaryOp .Not ea _ => chk a m.sub sc ea
    | _ => false
  | .cmp c a b, _, sc, e => match e with
    | .Compare ea [op] [eb] _ => decide (op = pyCm c) && (!behindInMarks op eb && (chk a .peek sc ea && chk b .peek sc eb))
    | _ => false
  | .isN a, _, sc, e => match e with
    | .Compare ea [.Is] [.Constant .none _ _] _ => chk a .peek sc ea
    | _ => false
  | .notN a, _, sc, e => match e with
    | .Compare ea [.IsNot] [.Constant .none _ _] _ => chk a .peek sc ea
    | _ => false
  | .isB a b, _, sc, e => match e with
    | .Compare ea [.Is] [.Constant (.bool c) _ _] _ => b == c && chk a .peek sc ea
    | _ => false
  | .notB a b, _, sc, e => match e with
    | .Compare ea [.IsNot] [.Constant (.bool c) _ _] _ => b == c && chk a .peek sc ea
    | _ => false
  | .chn c c' a b d, _, sc, e => match e with
    | .Compare ea [op, op'] [eb, ed] _ => decide (op = pyCm c) && (decide (op' = pyCm c') && (!lastMarks [op, op'] [eb, ed] && (chk a .peek sc ea && (chk b .peek sc eb && chk d .peek sc ed))))
    | _ => false
  | .an ts, m, sc, e => match e with
    | .BoolOp .And es _ => decide (ts.length ≠ 0) && chks ts m.sub2 sc es
    | _ => false
  | .orr ts, m, sc, e => match e with
    | .BoolOp .Or es _ => decide (ts.length ≠ 0) && chks ts m.sub2 sc es
    | _ => false
  | .ite c a b, m, sc, e => match e with
    | .IfExp ec ea eb _ => decide (m ≠ .test) && (chk c .test sc ec && (chk a .use sc ea && chk b .use sc eb))
    | _ => false
  | .tup ts, _, sc, e => match e with
    | .Tuple es _ _ => decide (ts.length ≤ 1000) && chks ts .use sc es
    | _ => false
  | .lst ts, _, sc, e => match e with
    | .List es _ => decide (ts.length ≤ 1000) && chks ts .use sc es
    | _ => false
  | .box ts, _, sc, e => match e with
    | .List es _ => decide (ts.length ≤ 1000) && chks ts .use sc es
    | _ => false
  | .ix a i, _, sc, e => match e with
    | .Subscript ea ei _ => notSlice ei && (chk a .peek sc ea && chk i .peek sc ei)
    | _ => false
  | .sl a lo hi, _, sc, e => match e with
    | .Subscript ea (.Slice elo ehi none _) _ => chk a .peek sc ea && ((match elo with
      | none => isNon lo
      | some x => !isNon lo && chk lo .peek sc x) && (match ehi with
      | none => isNon hi
      | some x => !isNon hi && chk hi .peek sc x))
    | _ => false
  | .rev a, _, sc, e => match e with
    | .Subscript ea (.Slice none none (some (.UnaryOp .USub (.Constant (.int 1) _ _) _)) _) _ => chk a .peek sc ea
    | _ => false
  | .call f ts, _, sc, e => match e with
    | .Call (.Name x _) es [] _ => decide (p.fnn[f]? = some x ∧ p.mts[f]? = some none) && (gloB sc x && (plainN x && (decide (ts.length ≠ 0) && chks ts .use sc es)))
    | _ => false
  | .bi b ts, _, sc, e => match e with
    | .Call (.Name x _) es [] _ => decide (x = biName b) && (biOn b && (gloB sc x && (decide (ts.length ≠ 0) && chks ts .peek sc es)))
    | _ => false
  | .isi a t, _, sc, e => match e with
    | .Call (.Name x _) [ea, .Name y _] [] _ => decide (x = "isinstance") && (gloB sc x && (decide (y = tyName t) && (gloB sc y && (notStar ea && chk a .peek sc ea))))
    | _ => false
  | .me m a ts, _, sc, e => match e with
    | .Call (.Attribute ea x apos) [e1] [] pos => decide (x = meName m) && (notCall0 ea && ((apos.endLine == pos.line) && (decide (ts.length = 1) && (chk a .peek sc ea && chks ts .peek sc [e1]))))
    | _ => false
  | .comp d tg it cs, _, sc, e => match e with
    | .ListComp ee [⟨etg, eit, eifs, 0⟩] scope _ => (tg.slots.all fun i => !own o i) && (blkC N sc scope (ownC N tg.slots) && (chkTg N (ownSt scope) tg etg && (itOk it etg eit && (chk it .it sc eit && (decide (cs.length ≤ 1) && (chks cs .test (relS scope sc) eifs && chk d .use (relS scope sc) ee))))))
    | _ => false
  | .rng ts, m, sc, e => match e with
    | .Call (.Name x _) es [] _ => decide (m = .it) && (decide (x = "range") && (gloB sc x && (decide (ts.length ≠ 0) && (decide (ts.length ≤ 2) && chks ts .peek sc es))))
    | _ => false
  | .zip a b, m, sc, e => match e with
    | .Call (.Name x _) [ea, eb] [] _ => decide (m = .it) && (decide (x = "zip") && (gloB sc x && (notStar ea && (notStar eb && (chk a .use sc ea && chk b .use sc eb)))))
    | _ => false
  | .tzip a b, _, sc, e => match e with
    | .Call (.Name x _) [.Call (.Name y _) [ea, eb] [] _] [] _ => decide (x = "tuple") && (decide (y = "zip") && (gloB sc x && (gloB sc y && (notStar ea && (notStar eb && (chk a .peek sc ea && chk b .peek sc eb))))))
    | _ => false
  | .fld c i x, _, sc, e => fldB p N c i x sc e
  | .flen c i x, _, sc, e => match e with
    | .Call (.Name y _) [ea] [] _ => decide (y = "len") && (gloB sc y && (notStar ea && fldB p N c i x sc ea))
    | _ => false
  | .fne c i x, _, sc, e => match e with
    | .Compare ea [.NotEq] [.List [] _] _ => fldB p N c i x sc ea
    | _ => false
  | .fix c i x k, _, sc, e => match e with
    | .Subscript ea ei _ => ixB k ei && fldB p N c i x sc ea
    | _ => false
  | .ftup c i x, _, sc, e => match e with
    | .Call (.Name y _) [ea] [] _ => decide (y = "tuple") && (gloB sc y && (notStar ea && fldB p N c i x sc ea))
    | _ => false
  | .fcomp c i x tg d, _, sc, e => match e with
    | .ListComp ee [⟨etg, eit, [], 0⟩] scope _ => (tg.slots.all fun i => !own o i) && (blkC N sc scope (ownC N tg.slots) && (chkTg N (ownSt scope) tg etg && (fldB p N c i x sc eit && (projT d && chk d .use (relS scope sc) ee))))
    | _ => false
  | .new c f ts, _, sc, e => match e with
    | .Call (.Name y _) es [] _ => decide ((p.cls[c]?).map (·.1) = some y ∧ p.mts[f]? = some (some (c, Str.ofString "__init__"))) && (gloB sc y && (plainN y && chks ts .use sc es))
    | _ => false
  | .mcall c f i m ts, _, sc, e => match e with
    | .Call (.Attribute eo nm apos) es [] pos => decide ((nm = m ∧ p.mts[f]? = some (some (c, m))) ∧ ts.length < 29) && ((apos.endLine == pos.line) && ((p.cls[c]?).isSome && (slotB N i sc eo && chks ts .use sc es)))
    | _ => false
  | .bad, _, _, _ => true
  | .din x es a, _, sc, e => match e with
    | .Compare ea [.In] [.Name y _] _ => decide (y = x ∧ (x, es) ∈ p.dts) && (gloB sc y && (plainN y && chk a .peek sc ea))
    | _ => false
  | .dix x es a, _, sc, e => match e with
    | .Subscript (.Name y _) ei _ => decide (y = x ∧ (x, es) ∈ p.dts) && (gloB sc y && (plainN y && (notSlice ei && chk a .peek sc ei)))
    | _ => false
  | .dget x es a b, _, sc, e => match e with
    | .Call (.Attribute (.Name y _) nm apos) [ea, eb] [] pos => decide (y = x ∧ (x, es) ∈ p.dts) && (decide (nm = "get") && (gloB sc y && (plainN y && ((apos.endLine == pos.line) && (notStar ea && (notStar eb && (chk a .peek sc ea && chk b .use sc eb)))))))
    | _ => false
  | .lset a, _, sc, e => match e with
    | .Call (.Name x _) [.Call (.Name y _) [ea] [] _] [] _ => decide (x = "len") && (decide (y = "set") && (gloB sc x && (gloB sc y && (notStar ea && chk a .peek sc ea))))
    | _ => false
  | .sset _ a, _, sc, e => match e with
    | .Call (.Name x _) [.Call (.Name y _) [ea] [] _] [] _ => decide (x = "sorted") && (decide (y = "set") && (gloB sc x && (gloB sc y && (notStar ea && chk a .peek sc ea))))
    | _ => false
  | .enum a, m, sc, e => match e with
    | .Call (.Name x _) [ea] [] _ => decide (m = .it) && (decide (x = "enumerate") && (gloB sc x && (notStar ea && chk a .use sc ea)))
    | _ => false
def chks : List T → Md → Scope → List Expr → Bool
  | [], _, _, es => match es with
    | [] => true
    | _ => false
  | t :: ts, m, sc, es => match es with
    | e :: es => notStar e && (chk t m sc e && chks ts m sc es)
    | _ => false
end
end
end VE

set_option Elab.async false
set_option linter.all false
set_option maxRecDepth 100000
set_option maxHeartbeats 4000000
/-! VE, part G: defs that are called where no guard is under way (repr asks for that). -/
namespace VE
open PySem PySem.Spec PyProof.Rows L2

/-- a def's promise, no guard being under way -/
structure FnG (P : Program) (w : World) (K : PySem.W.Frag) (mg : Str → Option Value)
    (base : Heap) (C : CXT) (k : Nat) (f : Addr) (fd : FuncData) (ps : List Str) (sp : Sp) : Prop where
  len : ∀ xs H Q E, sp xs H Q E → xs.length = ps.length
  run : ∀ (B : Around) (out : List PySem.Env) (t : Shared) (H : Hp) (as : Args) (us : List Value) (xs : List V) (Q : VK) (E : XK),
    Room k B → B.guards = some [] → Env0 P w K mg base B out t H → BindsTo t fd as (ps.zip us) → Vals xs us → sp xs H Q E →
      codeAny (model P w) B (.call (.ref f) as) (CR C out P w H t Q E) t
section
variable {P : Program} {w : World} {K : PySem.W.Frag} {mg mb : Str → Option Value} {base : Heap} {C : CXT} {k : Nat} {f : Addr} {fd : FuncData} {ps N : List Str} {sp : Sp}
theorem fng_of {x qual : Str} {params : Arguments} {body : List Stmt} {scope : Scope} {dvs : List V} {kws : List (Str × V)}
    (F : FunD K x qual params body scope dvs kws f fd) (S : FnScope N ps scope) (hl : ∀ xs H Q E, sp xs H Q E → xs.length = ps.length)
    (hb : ∀ (cdv : Value) (B : Around) (out : List PySem.Env) (t : Shared) (H : Hp) (xs : List V) (Q : VK) (E : XK),
      Room k (B.deeper (envOfC qual scope t.heap.objs.size f cdv)) → B.guards = some [] → sp xs H Q E →
        ∃ rd, PSs (cxOf C P w K mg base N qual scope f cdv B out t H E) body rd ∧ rd { nx := fun _ G => Q .non G, rt := Q } (start N xs) H) :
    FnG P w K mg base C (k + 1) f fd ps sp := by
  obtain ⟨oc, od, dV, kV, doc, pm, an, cdv, ct, osl, rfl, lk, hcd, _, _⟩ := F.ex
  refine ⟨hl, fun B out t H as us xs Q E rm gd e0 bd rv pr => ?_⟩
  have ln := hl _ _ _ _ pr
  have kp : ∀ b o, base.get? b = some o → t.heap.get? b = some o := fun b o e => (e0.bs b o e).1
  have kin : K.In t.heap := e0.mod.kin.keeps kp
  have kd : ∀ y ∈ ps.zip us, scope.names.lookup y.1 = some .local ∨
      (scope.names.lookup y.1 = some .cell ∧ ((cellsFrom (t.heap.objs.size + 1) scope.names []).lookup y.1).isSome = true) := by
    rintro ⟨n, v⟩ hy
    exact (S.par n (List.of_mem_zip hy).1).imp id fun q => ⟨q, PySem.W.cellsFrom_some _ _ _ (.inl q)⟩
  refine codeAny_call_function rm.depth (kin _ _ lk) rfl S.co S.gen rfl (PySem.W.codeRec_of kin hcd) (bd _ _ _ _ ?_)
  refine wpAny_newFunctionEnv_cells S.kind kd fun e he t1 ic => ?_
  subst he
  refine ⟨(e0.mod.nolimit.keeps kp).keeps ic.toInCall.keep, codeAny_func ?_⟩
  obtain ⟨rd, hrd, hq⟩ := hb cdv B out t H xs Q E (rm.deeper _) gd pr
  have I := inv_start (CX := C) (E := E) S rm.hd e0 ln rv ic
  refine wpAny_mono (hrd.run [] t1 (start N xs) H _ I hq) (fun fl t' hs => ?_) fun _ _ hs => hs
  cases fl with
  | ret u =>
    obtain ⟨v, σ', G, J, r2, q⟩ := hs
    exact ⟨v, G, J.os, J.bare, J.base, J.hok, r2, q⟩
  | next =>
    obtain ⟨σ', G, J, q⟩ := hs
    exact ⟨V.non, G, J.os, J.bare, J.base, J.hok, rfl, q⟩
  | brk =>
    obtain ⟨_, _, _, q⟩ := hs
    exact q.elim
  | cont =>
    obtain ⟨_, _, _, q⟩ := hs
    exact q.elim
/-- a call by its name -/
theorem pe_callG {X : Cx} {E : L2.St → XK} {x : Str} {np pos : Pos} {e : Expr} {es : List Expr} {t : TA} (F : FnG X.prog X.w X.K X.mg X.base C k f fd ps sp)
    (rm : Room k X.A) (gd : X.A.guards = some []) (hg : Gl X x) (hm : X.mg x = some (.ref f)) (hk : PySem.W.keepIn X.K (.ref f) = true) (hb : L2.Binds X.K fd ps []) (hx : ∀ σ, PassesAt C X σ (E σ))
    (ha : PA X (e :: es) t) (hd : (x == ("__debug__" : Str)) = false) (hs : starEach (e :: es) X.env = (false, eval e X.env) :: starEach es X.env) (hp : (backTo pos (starEach es X.env)).any (·.1) = false) :
    PE X (.Call (.Name x np) (e :: es) [] pos) (tCallS sp E t) := by
  refine ⟨fun pins s σ H Q I pr => wpAny_Call_Name_kw (ld_glob I hg hm ?_ hd)⟩
  have args := ha.run pos pins s σ H _ I pr
  refine PySem.W.callWith_K (h₀ := X.base) I.ok.mod.kin hk (wpAny_mono args (fun us s1 hh => ?_) fun _ _ z => z) hs hp
  obtain ⟨vs, H1, J, rv, q⟩ := hh
  refine ⟨J.kIn, wpAny_call ?_⟩
  have ln : us.length = ps.length := by
    rw [← rv.length]
    exact F.len _ _ _ _ q
  have bd := hb s1 us J.kIn (by simpa using ln)
  rw [List.append_nil] at bd
  refine codeAny_mono (F.run X.A X.stack s1 H1 ⟨us, []⟩ us vs Q (E σ) rm gd J.env0 bd rv q) fun r s2 hq => ?_
  cases r with
  | error u => exact hx σ pins H1 s1 u s2 J hq
  | ok fl =>
    cases fl with
    | ret u => exact J.after hq
    | next => exact hq.elim
    | brk => exact hq.elim
    | cont => exact hq.elim
/-- what stands ahead of the law's call -/
structure Ahead (P : Program) (w : World) (K : PySem.W.Frag) (mg mb : Str → Option Value) (t : Shared) (a : Addr) (vs : List Value) : Prop where
  kin : K.In t.heap
  ns : t.heap.Ns mainGlobals mg
  nb : t.heap.Ns builtinsNs mb
  boot : ∀ x : Str, x ≠ "__name__" → mb x = bootBuiltins x
  lim : t.heap.NoLimit
  gens : t.gens = #[]
  at_ : t.heap.get? a = some { cls := .type "list", data := .seq vs.toArray }
def Told (t : Shared) (r : Result) (t' : Shared) : Prop := r = .ok (.ret (.bool true)) ∧ OldK t.heap t'.heap ∧ t'.os = t.os ∧ AllBare t'.gens
theorem told_core {t : Shared} {a : Addr} {vs : List Value} {ns : List Int} {x : Str} (Z : Ahead P w K mg mb t a vs) (rm : Room k callerA)
    (F : ∀ base : Heap, K.In base → base.Ns mainGlobals mg → FnG P w K mg base C k f fd [x] sp) (bd : ∀ (s : Shared) (u : Value), BindsTo s fd ⟨[u], []⟩ [(x, u)])
    (hC : ∀ H e s', C [] H t (fun _ _ _ => False) e s' → False) (H : Hp) (hO : Only H) (hp : sp [.ref a] H (fun v _ => v = .bl true) fun _ _ _ => False) (hok : HOk P w H t.heap)
    (one : ∀ b, H b ≠ none → b = a) (hK : H a ≠ none → K.lookup a = none) : codeAny (model P w) callerA (.call (.ref f) ⟨[.ref a], []⟩) (Told t) t := by
  have clear : ∀ {b : Addr}, b ≠ a → H b = none := fun {b} nb => Classical.byContradiction fun z => nb (one b z)
  have here : ∀ {b : Addr} {m : Str → Option Value}, t.heap.Ns b m → (hidT t.heap H).Ns b m := fun {b m} ⟨o, es, ep, e, d, r⟩ => by
    refine ⟨o, es, ep, hidT_get e (clear fun z => ?_), d, r⟩
    rw [z, Z.at_] at e
    cases e
    have d : Data.seq vs.toArray _ = Data.dict es ep := d
    cases d
  have kin2 : K.In (hidT t.heap H) := fun b o e => by
    refine hidT_get (Z.kin b o e) (Classical.byContradiction fun z => ?_)
    have ba := one b z
    subst ba
    rw [hK z] at e
    cases e
  obtain ⟨mc, l1, l2⟩ := Z.lim
  have e0 : Env0 P w K mg (hidT t.heap H) callerA [] t H :=
    { frames := rfl
      mod := ⟨kin2, here Z.ns, ⟨mb, here Z.nb, Z.boot⟩, ⟨mc, here l1, l2⟩⟩
      bs := fun b o e => of_hidT e
      bsz := Nat.le_of_eq (hidT_size _ _)
      funs := trivial
      frf := fun b hb => absurd (show b ∈ ([] : List Addr) from hb) List.not_mem_nil
      hok := hok
      bare := .of_eq Z.gens }
  refine codeAny_mono ((F _ kin2 (here Z.ns)).run callerA [] t H ⟨[.ref a], []⟩ [.ref a] [.ref a] _ _ rm rfl e0 (bd t (.ref a)) (.cons rfl .nil) hp) fun r t' hh => ?_
  match r, hh with
  | .error e, hh => exact (hC H e t' hh).elim
  | .ok .next, hh => exact hh.elim
  | .ok .brk, hh => exact hh.elim
  | .ok .cont, hh => exact hh.elim
  | .ok (.ret u), hh =>
    obtain ⟨v, G, os, bare, un, hok2, rv, q⟩ := hh
    have q : v = .bl true := q
    subst q
    have ru : u = Value.bool true := rv
    subst ru
    refine ⟨rfl, OldK.of_keep fun b o e => ?_, os, bare⟩
    rcases hO b with z | ⟨ob, xs, z⟩
    · exact un.keep b o e z (fun y => absurd (show b ∈ ([] : List Addr) from y) List.not_mem_nil) List.not_mem_nil
    · obtain ⟨e1, _⟩ := hok b _ z
      obtain ⟨e2, _⟩ := hok2 b _ (un.frzs b ob _ z)
      rw [e] at e1
      cases e1
      exact e2
theorem told_law {t : Shared} {a : Addr} {vs : List Value} {ns : List Int} {x : Str} (Z : Ahead P w K mg mb t a vs) (hi : IntsAre vs ns) (hl : ns.length ≤ sizeLine) (rm : Room k callerA)
    (F : ∀ base : Heap, K.In base → base.Ns mainGlobals mg → FnG P w K mg base C k f fd [x] sp) (bd : ∀ (s : Shared) (u : Value), BindsTo s fd ⟨[u], []⟩ [(x, u)])
    (hC : ∀ H e s', C [] H t (fun _ _ _ => False) e s' → False) (hp : ∀ H : Hp, Only H → SqL K H a (ns.map V.int) → sp [.ref a] H (fun v _ => v = .bl true) fun _ _ _ => False) :
    codeAny (model P w) callerA (.call (.ref f) ⟨[.ref a], []⟩) (Told t) t := by
  have rv := vals_ints hi
  cases hk : K.lookup a with
  | some o =>
    have e := (Z.kin a o hk).symm.trans Z.at_
    cases e
    have hS : SqL K (fun _ => none) a (ns.map V.int) := .inr ⟨_, vs.toArray, _, hk, rfl, rfl, rfl, by rw [List.size_toArray, hi.length]; exact hl, by simpa using rv⟩
    exact told_core (ns := ns) Z rm F bd hC (fun _ => none) (fun _ => .inl rfl) (hp _ (fun _ => .inl rfl) hS) (fun b u z => nomatch (show (none : Option HO) = some u from z)) (fun b z => absurd rfl z) fun z => absurd rfl z
  | none =>
    let ob : Obj := { cls := .type "list", data := .seq vs.toArray }
    let G : Hp := fun b => if b = a then some (.frz ob (.lst (ns.map V.int))) else none
    have g1 : G a = some (.frz ob (.lst (ns.map V.int))) := if_pos rfl
    have g2 : ∀ b, b ≠ a → G b = none := fun b nb => if_neg nb
    have hO : Only G := fun b => (Classical.em (b = a)).elim (fun z => .inr ⟨ob, ns.map V.int, by rw [z]; exact g1⟩) fun z => .inl (g2 b z)
    refine told_core (ns := ns) Z rm F bd hC G hO (hp G hO (.inl (.inr ⟨ob, g1⟩))) (fun b u z => ?_) (fun b z => Classical.byContradiction fun nb => z (g2 b nb)) fun _ => hk
    by_cases ba : b = a
    · subst ba
      rw [g1] at z
      cases z
      exact ⟨Z.at_, by rw [List.length_map]; exact hl, vs, _, rv, Z.at_⟩
    · rw [g2 b ba] at z
      cases z
theorem walk_G {l : PySem.W.OpenLaw} {n : Nat} {q : Program} {loose : List Str} {XP : (Str → Option Value) → Heap → Prop} {YP : World → Heap → Prop} {d : DefRec} {x : Str}
    (hn : l.most = some n) (hn2 : n ≤ sizeLine) (hdf : d.params.defaults = []) (rm : Room k callerA)
    (F : ∀ (w : World) (mg : Str → Option Value) (fa : Addr) (h : Heap), YP w h → h.Ns mainGlobals mg → mg d.name = some (.ref fa) → ∃ (C : CXT) (K : PySem.W.Frag) (fd : FuncData) (sp : Sp),
      K.In h ∧ (∀ (H : Hp) (s : Shared) (e : Value) (s' : Shared), C [] H s (fun _ _ _ => False) e s' → False) ∧ (∀ (s : Shared) (u : Value), BindsTo s fd ⟨[u], []⟩ [(x, u)]) ∧
        (∀ (H : Hp) (a : Addr) (ns : List Int), ns.length ≤ n → SqL K H a (ns.map V.int) → sp [.ref a] H (fun v _ => v = .bl true) fun _ _ _ => False) ∧
        ∀ base : Heap, K.In base → base.Ns mainGlobals mg → FnG l.prog w K mg base C k fa fd [x] sp) :
    PySem.W.WalkO q loose XP YP l.row.toRowW d [] (fun f vs => PySem.call f vs) := by
  refine Att.attach_call hn hdf fun w t0 t mg mb fa o pm cd doc a vs ns G Y ho hd hcd hmg ha hi hlen hg => ?_
  obtain ⟨C, K, fd, sp, kin, hC, bd, hp, hF⟩ := F w mg fa _ Y G.T.g hmg
  exact told_law ⟨kin, G.T.g, G.T.b, G.T.builtins, G.T.nolimit, hg, ha⟩ hi (Nat.le_trans hlen hn2) rm hF bd (fun H e s' => hC H t e s') fun H _ hS => hp H a ns hlen hS
end
end VE

set_option Elab.async false
set_option linter.all false
set_option maxRecDepth 100000
set_option maxHeartbeats 4000000
/-! VE, part R: t[::-1] of a tuple. -/
namespace VE
open PySem PySem.Spec PyProof.Rows L2

theorem fm_congr {α β : Type} {f g : α → Option β} : ∀ {l : List α}, (∀ x ∈ l, f x = g x) → l.filterMap f = l.filterMap g
  | [], _ => rfl
  | x :: l, h => by
    rw [List.filterMap_cons, List.filterMap_cons, h x List.mem_cons_self, fm_congr fun y hy => h y (List.mem_cons_of_mem _ hy)]
theorem pick_back (xs : Array Value) : ((List.range xs.size).filterMap fun (k : Nat) => xs[(((xs.size : Nat) : Int) - 1 + (k : Int) * (-1)).toNat]?).toArray = xs.toList.reverse.toArray := by
  have e1 : (List.range xs.size).filterMap (fun (k : Nat) => xs[(((xs.size : Nat) : Int) - 1 + (k : Int) * (-1)).toNat]?) = ((List.range xs.size).map fun k => xs.size - 1 - k).filterMap (xs[·]?) := by
    rw [List.filterMap_map]
    refine fm_congr fun k hk => ?_
    have := List.mem_range.mp hk
    show _ = xs[xs.size - 1 - k]?
    congr 1
    omega
  have e2 : (List.range xs.size).map (fun k => xs.size - 1 - k) = (List.range xs.size).reverse := by
    refine List.ext_getElem (by simp) fun j h1 h2 => ?_
    simp
  have e3 : (List.range xs.size).filterMap (xs[·]?) = xs.toList := by
    refine List.ext_getElem? fun j => ?_
    have hh : ∀ n ≤ xs.size, (List.range n).filterMap (xs[·]?) = xs.toList.take n := fun n => by
      induction n with
      | zero => simp
      | succ n ih =>
        intro hn
        rw [List.range_succ, List.filterMap_append, ih (by omega)]
        have lt : n < xs.size := by omega
        rw [List.take_succ_eq_append_getElem (by simpa using lt)]
        simp [lt]
    rw [hh xs.size (Nat.le_refl _)]
    rw [List.take_of_length_le (by simp)]
  rw [e1, e2, List.filterMap_reverse, e3]
section
variable {prog : Program} {w : World} {A : Around} {E : Value → Shared → Prop} {s : Shared}
theorem applied_back {sl : Addr} {vl vu vs : Value} {n : Nat} {Q : Int × Int × Nat → Shared → Prop} (hs : s.heap.IsSliceOf sl vl vu vs) (pl : IsPart vl none) (pu : IsPart vu none) (ps : IsPart vs (some (-1)))
    (h : Q ((n : Int) - 1, -1, n) s) : wpAny (model prog w) A (Builtin.Slice.sliceApplied (.ref sl) (pure (n : Int))) Q E s := by
  obtain ⟨os, hos, hcs, hds⟩ := id hs
  unfold Builtin.Slice.sliceApplied Builtin.Slice.sliceFields
  have flds : ∀ {R : Value × Value × Value → Shared → Prop}, R (vl, vu, vs) s → wpAny (model prog w) A (do return (← field (.ref sl) 0, ← field (.ref sl) 1, ← field (.ref sl) 2)) R E s :=
    fun {R} q => wpAny_bind (wpAny_field hos hds (x := vl) rfl (wpAny_bind (wpAny_field hos hds (x := vu) rfl (wpAny_bind (wpAny_field hos hds (x := vs) rfl (wpAny_pure q))))))
  refine wpAny_bind (flds ?_)
  refine wpAny_bind (HT.slicePart_ ps ?_)
  show wpAny _ _ (if ((-1 : Int) == 0) = true then _ else _) _ _ s
  rw [if_neg (by decide)]
  refine wpAny_bind (HT.slicePart_ pl (wpAny_bind (HT.slicePart_ pu (wpAny_bind (wpAny_pure ?_)))))
  have e1 : Builtin.Slice.sliceAdjust none none (-1) (n : Int) = ((n : Int) - 1, -1) := rfl
  have e2 : Builtin.Slice.slicePlaces ((n : Int) - 1) (-1) (-1) = n := by
    unfold Builtin.Slice.slicePlaces
    rw [if_neg (by decide)]
    split
    · have : (-(-1 : Int)) = 1 := by decide
      rw [this, Int.ediv_one]
      omega
    · omega
  show wpAny _ _ (match Builtin.Slice.sliceAdjust none none (-1) (n : Int) with | (lo, hi) => pure (lo, (-1 : Int), Builtin.Slice.slicePlaces lo hi (-1))) _ _ s
  rw [e1]
  show wpAny _ _ (pure ((n : Int) - 1, (-1 : Int), Builtin.Slice.slicePlaces ((n : Int) - 1) (-1) (-1))) _ _ s
  rw [e2]
  exact wpAny_pure h
theorem getItem_back {t sl : Addr} {items : Array Value} {vl vu vs : Value} {Q : Value → Shared → Prop} (ht : IsTup s.heap t items) (hs : s.heap.IsSliceOf sl vl vu vs) (pl : IsPart vl none) (pu : IsPart vu none) (ps : IsPart vs (some (-1)))
    (h : Q (.ref s.heap.objs.size) { s with heap := s.heap.push { cls := .type "tuple", data := .seq items.toList.reverse.toArray } }) (hsz : items.size ≤ sizeLine) : wpAny (model prog w) A (getItem (.ref t) (.ref sl)) Q E s := by
  have hb : sizeOk (.seq items.toList.reverse.toArray) := by
    show items.toList.reverse.toArray.size ≤ sizeLine
    simpa using hsz
  obtain ⟨os, hos, hcs, hds⟩ := id hs
  have ts : s.TypeIs (.ref sl) "slice" := ⟨os, hos, hcs⟩
  unfold getItem
  try with_reducible refine wpAny_holding ?_
  first | refine wpAny_bind (wpAny_pure ?_) | skip
  refine wpAny_bind (wpAny_sequenceKey ht.typeIs (by decide) ?_)
  refine wpAny_bind (wpAny_callSpecial?_slot (name := Str.ofString "__getitem__") ht.typeIs PyProof.Rows.slot_tuple_getitem ?_)
  refine wpAny_call_entry PyProof.Rows.slot_tuple_getitem ht.typeIs PyProof.Rows.entry_tuple_getitem ?_ (PyProof.Rows.args_tuple_getitem _ _)
  show wpAny _ _ (Builtin.Tuple.tupleItemsOf (.ref t) >>= _) _ _ s
  refine wpAny_bind (tupleItemsOf_ ht ?_)
  refine wpAny_bind (wpAny_typeOf ts ?_)
  rw [if_pos (by decide)]
  refine wpAny_bind (applied_back hs pl pu ps ?_)
  have no : ¬ ((((items.size : Nat) : Int) - 1 == 0 && (-1 : Int) == 1 && items.size == items.size) = true) := by
    rw [show ((-1 : Int) == 1) = false from by decide, Bool.and_false, Bool.false_and]
    exact Bool.false_ne_true
  show wpAny _ _ (if (((items.size : Nat) : Int) - 1 == 0 && (-1 : Int) == 1 && items.size == items.size) = true then _ else _) _ _ s
  rw [if_neg no, pick_back]
  first
    | exact wpAny_bind (m := Builtin.Tuple.tupleExact _) (wpAny_newObj_type (wpAny_pure ⟨_, rfl, wpAny_pure h⟩) hb)
    | exact wpAny_bind (m := Builtin.Tuple.tupleExact _) (wpAny_newObj_type (wpAny_bind (wpAny_pure (wpAny_pure ⟨_, rfl, wpAny_pure h⟩))) hb)
    | exact wpAny_bind (wpAny_bind (m := Builtin.Tuple.tupleExact _) (wpAny_newObj_type (wpAny_pure (wpAny_pure ⟨_, rfl, wpAny_pure h⟩)) hb))
    | exact wpAny_bind (wpAny_bind (m := Builtin.Tuple.tupleExact _) (wpAny_newObj_type (wpAny_pure ⟨_, rfl, wpAny_pure h⟩) hb))
end
section
variable {X : Cx}
def tRevT (K : PySem.W.Frag) (te : TE) : TE := fun σ H Q => te σ H fun x H1 => ∃ a xs, x = .ref a ∧ SqT K H1 a xs ∧ ∀ p, H1 p = none → Q (.ref p) (upd H1 p (.tup xs.reverse))
theorem pe_revT {e : Expr} {te : TE} {k : Nat} {p1 p2 p3 pos : Pos} (he : PE X e te) : PE X (.Subscript e (.Slice none none (some (.UnaryOp .USub (.Constant (.int 1) k p1) p2)) p3) pos) (tRevT X.K te) := by
  refine ⟨fun pins s σ H Q I h => Subscript_ (thn (he.run pins s σ H _ I h) fun v s1 ⟨x, H1, I1, r1, a, xs, ex, hx, q⟩ => ?_)⟩
  subst ex
  cases r1
  have step : PO X (some (.UnaryOp .USub (.Constant (.int 1) k p1) p2)) (tPart (tUn (rU fun i => .int (-i)) (tC (.int 1)))) := po_some (pe_un un_neg pe_int)
  refine wpAny_Slice (thn (po_none.run pins s1 σ H1 (fun o G => o = none ∧ G = H1) I1 ⟨rfl, rfl⟩) fun vl s2 ⟨l, H2, I2, pl, el, e2⟩ => ?_)
  subst el e2
  refine thn (po_none.run pins s2 σ H2 (fun o G => o = none ∧ G = H2) I2 ⟨rfl, rfl⟩) fun vu s3 ⟨u, H3, I3, pu, eu, e3⟩ => ?_
  subst eu e3
  refine thn (step.run pins s3 σ H3 (fun o G => o = some (-1) ∧ G = H3) I3 ⟨1, rfl, -1, rfl, rfl, rfl⟩) fun vs s4 ⟨o, H4, I4, ps, eo, e4⟩ => ?_
  subst eo e4
  have I5 : Inv X pins σ H4 { s4 with heap := s4.heap.push { cls := .type "slice", data := .fields #[vl, vu, vs] } } := I4.kept (t' := s4.toks) fun b ob z => Heap.get?_push_of_some _ z
  obtain ⟨its, r, ht, hz⟩ := I5.tuple hx
  have ln := r.length
  show wpAny (model X.prog X.w) X.A (subscriptTail e (.Slice none none (some (.UnaryOp .USub (.Constant (.int 1) k p1) p2)) p3) (.ref a) (.ref s4.heap.objs.size)) (EP X pins σ Q) X.xe _
  refine tail_any (ops := [.ref a, .ref s4.heap.objs.size]) ht.typeIs (PyProof.Rows.slot_tuple_getitem.lookup) ?_ (by with_unfolding_all rfl)
  refine getItem_back ht (Heap.IsSliceOf.new _ vl vu vs) pl pu ps ?_ (by rw [List.size_toArray]; omega)
  refine ⟨.ref _, _, I5.laid (t' := s4.toks) (o := .tup xs.reverse) (fun b ob z => Heap.get?_push_of_some _ z) (Nat.le_refl _) ?_, rfl, q _ (I5.hok.fresh (Nat.le_refl _))⟩
  exact ⟨by rw [List.length_reverse]; exact hz, _, r.reverse, IsTup.new _ _⟩
end
end VE

set_option Elab.async false
set_option linter.all false
set_option maxRecDepth 100000
set_option maxHeartbeats 4000000
/-! VE, part Z: tuple(zip(xs, ys)) of two lists. -/
namespace VE
open PySem PySem.Spec PyProof.Rows L2

theorem zip_nolen : typeLookup (.type "zip") "__len__" = pure none := by
  rw [typeLookup_type, builtinLookup_eq_fast]
  kernel_rfl
theorem zip_nohint : typeLookup (.type "zip") "__length_hint__" = pure none := by
  rw [typeLookup_type, builtinLookup_eq_fast]
  kernel_rfl
/-- where a zip stands ahead of its pair i; its last pair may be held; S is the list that is filled -/
def ZSt (S : Addr) (h : Heap) (z TI TO i1 i2 l1 l2 : Addr) (i : Nat) : Prop :=
  IsPair h TI (.ref i1) (.ref i2) ∧ h.IsListIter i1 l1 i ∧ h.IsListIter i2 l2 i ∧ (∃ o, h.get? TO = some o) ∧ ((IsZip h z TI TO .none ∧ ∃ a b, IsPair h TO a b) ∨ ∃ T f oT, IsZipHeld h z TI TO T f ∧ h.get? T = some oT ∧ T ≠ z ∧ T ≠ i1 ∧ T ≠ i2 ∧ T ≠ S)
def ch5 (z TI TO i1 i2 : Addr) : List Addr := [z, TI, TO, i1, i2]
section
variable {X : Cx} {pins : List (Addr × Obj)} {σ : L2.St} {H : Hp} {s : Shared} {B : Around} {E : Value → Shared → Prop} {S z TI TO i1 i2 l1 l2 : Addr} {i : Nat} {xs ys : List V} {x y : V}
theorem ZSt.ty (st : ZSt S s.heap z TI TO i1 i2 l1 l2 i) : s.TypeIs (.ref z) "zip" := by
  rcases st.2.2.2.2 with ⟨h, _⟩ | ⟨T, f, oT, h, _⟩
  · exact ⟨_, h, rfl⟩
  · exact ⟨_, h, rfl⟩
theorem ZSt.frame {h h' : Heap} (st : ZSt S h z TI TO i1 i2 l1 l2 i) (nS : S ∉ ch5 z TI TO i1 i2) (k : ∀ b o, b ≠ S → h.get? b = some o → h'.get? b = some o) : ZSt S h' z TI TO i1 i2 l1 l2 i := by
  simp only [ch5, List.mem_cons, List.not_mem_nil, or_false, not_or] at nS
  obtain ⟨n1, n2, n3, n4, n5⟩ := nS
  obtain ⟨a, b, c, ⟨oO, eO⟩, d⟩ := st
  refine ⟨k _ _ (Ne.symm n2) a, b.at fun o e => k _ o (Ne.symm n4) e, c.at fun o e => k _ o (Ne.symm n5) e, ⟨oO, k _ _ (Ne.symm n3) eO⟩, ?_⟩
  rcases d with ⟨d, p, q, e⟩ | ⟨T, f, oT, d, e, r1, r2, r3, r4⟩
  · exact .inl ⟨k _ _ (Ne.symm n1) d, p, q, k _ _ (Ne.symm n3) e⟩
  · exact .inr ⟨T, f, oT, k _ _ (Ne.symm n1) d, k _ _ r4 e, r1, r2, r3, r4⟩
theorem ZSt.there {h : Heap} (st : ZSt S h z TI TO i1 i2 l1 l2 i) : z < h.objs.size ∧ i1 < h.objs.size ∧ i2 < h.objs.size ∧ TO < h.objs.size ∧ TI < h.objs.size := by
  obtain ⟨a, ⟨o1, e1, _⟩, ⟨o2, e2, _⟩, ⟨oO, eO⟩, d⟩ := st
  refine ⟨?_, Heap.lt_size e1, Heap.lt_size e2, Heap.lt_size eO, Heap.lt_size a⟩
  rcases d with ⟨d, _⟩ | ⟨T, f, oT, d, _⟩
  · exact Heap.lt_size d
  · exact Heap.lt_size d
/-- the next pair: a new tuple, tracked -/
theorem zip_item {Q : Option Value → Shared → Prop} (D : ZipApart z TI TO i1 i2 l1 l2) (I : Inv X pins σ H s) (st : ZSt S s.heap z TI TO i1 i2 l1 l2 i) (hS : S < s.heap.objs.size) (fp : ∀ b ∈ ch5 z TI TO i1 i2, FpOk X pins H b)
    (h1 : SqL X.K H l1 xs) (h2 : SqL X.K H l2 ys) (hx : xs[i]? = some x) (hy : ys[i]? = some y)
    (hQ : ∀ h', H s.heap.objs.size = none → Inv X pins σ (upd H s.heap.objs.size (.tup [x, y])) { s with heap := h' } → ZSt S h' z TI TO i1 i2 l1 l2 (i + 1) → (∀ c o, c ∉ ch5 z TI TO i1 i2 → s.heap.get? c = some o → h'.get? c = some o) → h'.objs.size = s.heap.objs.size + 1 →
      Q (some (.ref s.heap.objs.size)) { s with heap := h' }) : wpAny (model X.prog X.w) B (pyNext (.ref z)) Q E s := by
  obtain ⟨its, rv, p, _⟩ := I.list h1
  obtain ⟨its2, rv2, p2, _⟩ := I.list h2
  obtain ⟨u, hu, ru⟩ := rv.get hx
  obtain ⟨u2, hu2, ru2⟩ := rv2.get hy
  obtain ⟨hTI, k1, k2, ⟨oO, eO⟩, hz⟩ := st
  have lt : ∀ {c o}, s.heap.get? c = some o → s.heap.objs.size ≠ c := fun e => Nat.ne_of_gt (Heap.lt_size e)
  have n1 : s.heap.objs.size ≠ i1 := let ⟨_, e, _⟩ := k1; lt e
  have n2 : s.heap.objs.size ≠ i2 := let ⟨_, e, _⟩ := k2; lt e
  have fin : ∀ h', IsPair h' s.heap.objs.size u u2 → (∀ c o, c ∉ ch5 z TI TO i1 i2 → s.heap.get? c = some o → h'.get? c = some o) → Inv X pins σ (upd H s.heap.objs.size (.tup [x, y])) { s with heap := h' } := fun h' a5 kk =>
    I.turnedNew (t' := s.toks) kk fp (Nat.le_refl _) ⟨by show 2 ≤ sizeLine; decide, [u, u2], .cons ru (.cons ru2 .nil), ⟨_, a5, rfl, _, rfl⟩⟩
  rcases hz with ⟨hz, a, b, hTO⟩ | ⟨T, f, oT, hz, hT, r1, r2, r3, r4⟩
  · refine wpAny_pyNext_zip_item D hz hTI hTO k1 k2 p.isList p2.isList (by simpa using hu) (by simpa using hu2) fun h' a1 a2 a3 a4 a5 a6 hk => ?_
    have kk : ∀ c o, c ∉ ch5 z TI TO i1 i2 → s.heap.get? c = some o → h'.get? c = some o := fun c o hc e => by
      simp only [ch5, List.mem_cons, List.not_mem_nil, or_false, not_or] at hc
      exact hk c o hc.1 hc.2.2.1 hc.2.2.2.1 hc.2.2.2.2 e
    exact hQ h' (I.hok.fresh (Nat.le_refl _)) (fin h' a5 kk) ⟨hk _ _ D.TIz D.TITO D.TIi1 D.TIi2 hTI, a3, a4, ⟨_, a2⟩, .inr ⟨s.heap.objs.size, false, _, a1, a5, lt hz, n1, n2, Nat.ne_of_gt hS⟩⟩ kk a6
  · refine wpAny_pyNext_zip_item_held D hz hT hTI k1 k2 p.isList p2.isList (by simpa using hu) (by simpa using hu2) fun h' a1 a3 a4 a5 a6 hk => ?_
    have kk : ∀ c o, c ∉ ch5 z TI TO i1 i2 → s.heap.get? c = some o → h'.get? c = some o := fun c o hc e => by
      simp only [ch5, List.mem_cons, List.not_mem_nil, or_false, not_or] at hc
      exact hk c o hc.1 hc.2.2.2.1 hc.2.2.2.2 e
    exact hQ h' (I.hok.fresh (Nat.le_refl _)) (fin h' a5 kk) ⟨hk _ _ D.TIz D.TIi1 D.TIi2 hTI, a3, a4, ⟨oO, hk _ _ D.TOz D.TOi1 D.TOi2 eO⟩, .inr ⟨T, true, oT, a1, hk _ _ r1 r2 r3 hT, r1, r2, r3, r4⟩⟩ kk a6
theorem zip_done {Q : Option Value → Shared → Prop} (hh : B.handled = none) (D : ZipApart z TI TO i1 i2 l1 l2) (I : Inv X pins σ H s) (st : ZSt S s.heap z TI TO i1 i2 l1 l2 i) (fp : ∀ b ∈ ch5 z TI TO i1 i2, FpOk X pins H b)
    (h1 : SqL X.K H l1 xs) (h2 : SqL X.K H l2 ys) (hi : xs.length ≤ i ∨ ys.length ≤ i) (hQ : ∀ h', Inv X pins σ H { s with heap := h' } → (∀ c o, c ∉ ch5 z TI TO i1 i2 → s.heap.get? c = some o → h'.get? c = some o) → Q none { s with heap := h' }) :
    wpAny (model X.prog X.w) B (pyNext (.ref z)) Q E s := by
  obtain ⟨its, rv, p, _⟩ := I.list h1
  obtain ⟨its2, rv2, p2, _⟩ := I.list h2
  have q1 := rv.length
  have q2 := rv2.length
  have he : its.toArray[i]? = none ∨ its2.toArray[i]? = none := by
    rcases hi with q | q
    · exact .inl (by simp; omega)
    · exact .inr (by simp; omega)
  obtain ⟨hTI, k1, k2, ⟨oO, eO⟩, hz⟩ := st
  rcases hz with ⟨hz, a, b, hTO⟩ | ⟨T, f, oT, hz, hT, r1, r2, r3, r4⟩
  · refine wpAny_pyNext_zip_end hh D hz hTI hTO k1 k2 p.isList p2.isList he fun h' hk => ?_
    have kk : ∀ c o, c ∉ ch5 z TI TO i1 i2 → s.heap.get? c = some o → h'.get? c = some o := fun c o hc e => by
      simp only [ch5, List.mem_cons, List.not_mem_nil, or_false, not_or] at hc
      exact hk c o hc.1 hc.2.2.1 hc.2.2.2.1 hc.2.2.2.2 e
    exact hQ h' (I.turnedL (t' := s.toks) kk fp) kk
  · refine wpAny_pyNext_zip_end_held hh D hz hT hTI k1 k2 p.isList p2.isList he fun h' hk => ?_
    have kk : ∀ c o, c ∉ ch5 z TI TO i1 i2 → s.heap.get? c = some o → h'.get? c = some o := fun c o hc e => by
      simp only [ch5, List.mem_cons, List.not_mem_nil, or_false, not_or] at hc
      exact hk c o hc.1 hc.2.2.2.1 hc.2.2.2.2 e
    exact hQ h' (I.turnedL (t' := s.toks) kk fp) kk
/-- the tuples of the pairs so far -/
def Pairs (H0 H : Hp) (xs ys : List V) (Ts : List Addr) : Prop := ∀ (j : Nat) (T : Addr), Ts[j]? = some T → H0 T = none ∧ ∃ x y, xs[j]? = some x ∧ ys[j]? = some y ∧ H T = some (.tup [x, y])
theorem FpOk.upd {T : Addr} {o : HO} {b : Addr} (h : FpOk X pins H b) (ne : b ≠ T) : FpOk X pins (upd H T o) b := by
  obtain ⟨h1, h2⟩ := h
  exact ⟨by rw [upd_ne ne]; exact h1, h2⟩
theorem SqL.upd_new {K : PySem.W.Frag} {a T : Addr} {o : HO} (h : SqL K H a xs) (n : H T = none) : SqL K (upd H T o) a xs := SqL.mono (same_upd n) h
theorem zip_loop {H0 : Hp} {res : Value} {R : Result → Shared → Prop} {A : Around} (hh : A.handled = none) (D : ZipApart z TI TO i1 i2 l1 l2) (nS : S ∉ ch5 z TI TO i1 i2) (hn : min xs.length ys.length ≤ sizeLine) :
    ∀ (k i : Nat) (H : Hp) (s : Shared) (acc : Array Value) (c : Nat) (Ts : List Addr), min xs.length ys.length - i = k → i ≤ min xs.length ys.length → Inv X pins σ H s → ZSt S s.heap z TI TO i1 i2 l1 l2 i →
    (∀ b ∈ S :: ch5 z TI TO i1 i2, FpOk X pins H b) → SqL X.K H l1 xs → SqL X.K H l2 ys → s.heap.get? S = some { cls := .type "list", dict := none, data := .seq acc c, slots := #[] } → acc.toList = Ts.map Value.ref → Ts.length = i → Pairs H0 H xs ys Ts → Same H0 H →
    (∀ H' s' acc' c' Ts', Inv X pins σ H' s' → s'.heap.get? S = some { cls := .type "list", dict := none, data := .seq acc' c', slots := #[] } → acc'.toList = Ts'.map Value.ref → Ts'.length = min xs.length ys.length → Pairs H0 H' xs ys Ts' → Same H0 H' → R (.ok (.ret res)) s') →
    codeAny (model X.prog X.w) A (.builtin "list.extend.loop" ⟨[.ref S, .ref z, res], []⟩) R s := by
  intro k
  induction k with
  | zero =>
    intro i H s acc c Ts hk hi I st fp h1 h2 hS ea et pr sm hR
    refine codeAny_builtin F.entry_extend_loop ?_
    rw [Around.under_plainId F.plain_extend_loop _]
    show wpAny _ A.in1 (pyNext (.ref z) >>= _) _ _ s
    refine wpAny_bind (zip_done hh D I st (fun b hb => fp b (List.mem_cons_of_mem _ hb)) h1 h2 (by omega) fun h' I' kk => ?_)
    exact wpAny_pure (hR H _ acc c Ts I' (kk S _ nS hS) ea (by omega) pr sm)
  | succ k ih =>
    intro i H s acc c Ts hk hi I st fp h1 h2 hS ea et pr sm hR
    have lx : i < xs.length := by omega
    have ly : i < ys.length := by omega
    refine codeAny_builtin F.entry_extend_loop ?_
    rw [Around.under_plainId F.plain_extend_loop _]
    show wpAny _ A.in1 (pyNext (.ref z) >>= _) _ _ s
    have ltS : S < s.heap.objs.size := Heap.lt_size hS
    have fp5 : ∀ b ∈ ch5 z TI TO i1 i2, FpOk X pins H b := fun b hb => fp b (List.mem_cons_of_mem _ hb)
    refine wpAny_bind (zip_item D I st ltS fp5 h1 h2 (List.getElem?_eq_getElem lx) (List.getElem?_eq_getElem ly) fun h' nT I' st' kk sz => ?_)
    have hS' := kk S _ nS hS
    show wpAny _ A.in1 (updateSeq S (·.push (.ref s.heap.objs.size)) >>= _) _ _ _
    have la : acc.size = i := by
      rw [← Array.length_toList, ea, List.length_map, et]
    refine wpAny_bind (wpAny_updateSeq hS' rfl (wpAny_pure ⟨plainId_quiet F.plain_extend_loop _, ?_⟩) (by rw [la]; omega) (by show (acc.push (.ref s.heap.objs.size)).size ≤ sizeLine + 1; rw [Array.size_push, la]; omega))
    have oth : ∀ b o, b ≠ S → h'.get? b = some o → (h'.update S (Obj.mapSeq (·.push (.ref s.heap.objs.size)))).get? b = some o := fun b o nb e => (Heap.get?_update_other _ _ (Ne.symm nb)).trans e
    have fpS := fp S List.mem_cons_self
    have neT : ∀ b ∈ S :: ch5 z TI TO i1 i2, b ≠ s.heap.objs.size := fun b hb => by
      obtain ⟨t1, t2, t3, t4, t5⟩ := st.there
      rcases List.mem_cons.mp hb with rfl | hb
      · exact Nat.ne_of_lt ltS
      · simp only [ch5, List.mem_cons, List.not_mem_nil, or_false] at hb
        rcases hb with q | q | q | q | q <;> rw [q] <;> exact Nat.ne_of_lt (by assumption)
    have I2 := I'.turnedL (t' := s.toks) (h' := h'.update S (Obj.mapSeq (·.push (.ref s.heap.objs.size)))) (ch := [S]) (fun b o nb e => oth b o (fun q => nb (by rw [q]; exact List.mem_cons_self)) e) (fun b hb => by
      have e : b = S := by simpa using hb
      rw [e]
      exact FpOk.upd fpS (neT S List.mem_cons_self))
    refine ih (i + 1) _ _ (acc.push (.ref s.heap.objs.size)) _ (Ts ++ [s.heap.objs.size]) (by omega) (by omega) I2 (st'.frame nS oth) (fun b hb => FpOk.upd (fp b hb) (neT b hb)) (SqL.upd_new h1 nT) (SqL.upd_new h2 nT) (Heap.get?_update_self _ hS' rfl) ?_ ?_ ?_ (sm.trans (same_upd nT)) hR
    · simp [ea]
    · simp [et]
    · intro j T hj
      by_cases lj : j < Ts.length
      · rw [List.getElem?_append_left lj] at hj
        obtain ⟨p0, x, y, p1, p2, p3⟩ := pr j T hj
        exact ⟨p0, x, y, p1, p2, same_upd nT _ _ p3⟩
      · have ej : j = i := by
          have := (List.getElem?_eq_some_iff.mp hj).1
          rw [List.length_append, List.length_singleton] at this
          omega
        subst ej
        rw [List.getElem?_append_right (by omega), et, Nat.sub_self] at hj
        cases hj
        refine ⟨?_, _, _, List.getElem?_eq_getElem lx, List.getElem?_eq_getElem ly, upd_same⟩
        cases q : H0 s.heap.objs.size with
        | none => rfl
        | some o =>
          have := sm _ _ q
          rw [nT] at this
          cases this
theorem collect_zip {A : Around} {Q : List Value → Shared → Prop} (hh : A.handled = none) (D : ZipApart z TI TO i1 i2 l1 l2) (hn : min xs.length ys.length ≤ sizeLine) (I : Inv X pins σ H s) (hz : IsZip s.heap z TI TO .none) (hTI : IsPair s.heap TI (.ref i1) (.ref i2)) (hTO : ∃ a b, IsPair s.heap TO a b)
    (k1 : s.heap.IsListIter i1 l1 0) (k2 : s.heap.IsListIter i2 l2 0) (fp : ∀ b ∈ ch5 z TI TO i1 i2, FpOk X pins H b) (h1 : SqL X.K H l1 xs) (h2 : SqL X.K H l2 ys)
    (hQ : ∀ H' s' Ts, Inv X pins σ H' s' → Ts.length = min xs.length ys.length → Pairs H H' xs ys Ts → Same H H' → Q (Ts.map Value.ref) s') : wpAny (model X.prog X.w) A (collect (.ref z)) Q E s := by
  let nl : Obj := { cls := .type "list", data := .seq ([] : List Value).toArray }
  let S0 := s.heap.objs.size
  let hp := s.heap.push nl
  have ltz : z < S0 := Heap.lt_size hz
  have nzS : S0 ≠ z := Nat.ne_of_gt ltz
  have kp : ∀ b o, s.heap.get? b = some o → hp.get? b = some o := fun b o e => Heap.get?_push_of_some _ e
  have st0 : ZSt S0 hp z TI TO i1 i2 l1 l2 0 := by
    obtain ⟨a, b, e⟩ := hTO
    exact ⟨kp _ _ hTI, k1.at fun o e => kp _ o e, k2.at fun o e => kp _ o e, ⟨_, kp _ _ e⟩, .inl ⟨kp _ _ hz, a, b, kp _ _ e⟩⟩
  have I1 : Inv X pins σ H { s with heap := hp } := I.kept (t' := s.toks) kp
  have nS : S0 ∉ ch5 z TI TO i1 i2 := fun hb => by
    obtain ⟨a, b, e⟩ := hTO
    obtain ⟨o1, e1, _⟩ := id k1
    obtain ⟨o2, e2, _⟩ := id k2
    simp only [ch5, List.mem_cons, List.not_mem_nil, or_false] at hb
    rcases hb with q | q | q | q | q
    · exact Nat.ne_of_gt (Heap.lt_size hz) q
    · exact Nat.ne_of_gt (Heap.lt_size hTI) q
    · exact Nat.ne_of_gt (Heap.lt_size e) q
    · exact Nat.ne_of_gt (Heap.lt_size e1) q
    · exact Nat.ne_of_gt (Heap.lt_size e2) q
  have ty : ({ s with heap := hp } : Shared).TypeIs (.ref z) "zip" := st0.ty
  have fpS : FpOk X pins H S0 := I.fpOk (Nat.le_refl _) (I.hok.fresh (Nat.le_refl _))
  unfold collect
  refine wpAny_bind (wpAny_runValue (codeAny_builtin F.entry_proto_collect ?_))
  rw [Around.under_plainId F.plain_proto_collect _]
  show wpAny _ A.in1 (newList [] >>= fun l => again (.builtin "list.__iadd__" ⟨[l, .ref z], []⟩)) _ _ s
  refine wpAny_bind (wpAny_newObj_type ?_)
  refine wpAny_pure ⟨plainId_quiet F.plain_list_iadd _, codeAny_builtin F.entry_list_iadd ?_⟩
  rw [Around.under_plainId F.plain_list_iadd _]
  show wpAny _ A.in1 (Builtin.List.listExtendWith (.ref S0) (.ref z) (.ref S0)) _ _ { s with heap := hp }
  unfold Builtin.List.listExtendWith
  refine wpAny_bind (wpAny_typeOf ty ?_)
  have c1 : Builtin.List.listSameRef (.ref S0) (.ref z) = false := by simp [Builtin.List.listSameRef, nzS]
  have c2 : (Value.type "zip" == Value.type "list") = false := by decide
  have c3 : (Value.type "zip" == Value.type "tuple") = false := by decide
  simp only [c1, c2, c3, Bool.or_false, Bool.false_eq_true, if_false]
  refine wpAny_bind (wpAny_pyIter_zip (kp _ _ hz) ?_)
  refine wpAny_bind (wpAny_holding ?_)
  unfold Builtin.List.listLengthHint
  refine wpAny_bind (wpAny_specialOf ty zip_nolen ?_)
  show wpAny _ A.in1 (specialOf (Value.ref z) (Str.ofString "__length_hint__") >>= _) _ _ _
  refine wpAny_bind (wpAny_specialOf ty zip_nohint ?_)
  refine wpAny_pure ?_
  show wpAny _ A.in1 (rule "list.extend.makes-room" >>= fun _ => Builtin.List.listTouch (.ref S0) >>= fun _ => again (.builtin "list.extend.loop" ⟨[.ref S0, .ref z, .ref S0], []⟩)) _ _ _
  refine wpAny_bind (wpAny_rule ?_)
  have e1 : hp.get? S0 = some nl := Heap.get?_push_size _ rfl
  refine wpAny_bind ?_
  show wpAny _ A.in1 (updateSeq S0 (·.push .none) >>= fun _ => updateSeq S0 (·.pop)) _ _ _
  refine wpAny_bind (wpAny_updateSeq e1 rfl ?_)
  have e2 := Heap.get?_update_self (Obj.mapSeq (·.push Value.none)) e1 rfl
  refine wpAny_updateSeq e2 rfl ?_
  have e3 := Heap.get?_update_self (Obj.mapSeq (·.pop)) e2 rfl
  have oth : ∀ b o, b ≠ S0 → hp.get? b = some o → ((hp.update S0 (Obj.mapSeq (·.push Value.none))).update S0 (Obj.mapSeq (·.pop))).get? b = some o :=
    fun b o nb e => (Heap.get?_update_other _ _ (Ne.symm nb)).trans ((Heap.get?_update_other _ _ (Ne.symm nb)).trans e)
  have I2 := I1.turnedL (t' := s.toks) (h' := (hp.update S0 (Obj.mapSeq (·.push Value.none))).update S0 (Obj.mapSeq (·.pop))) (ch := [S0]) (fun b o nb e => oth b o (fun q => nb (by rw [q]; exact List.mem_cons_self)) e) (fun b hb => by
    have e : b = S0 := by simpa using hb
    rw [e]
    exact fpS)
  refine wpAny_pure ⟨plainId_quiet F.plain_extend_loop _, zip_loop (H0 := H) hh D nS hn (min xs.length ys.length) 0 H _ #[] _ [] (by omega) (Nat.zero_le _) I2 (st0.frame nS oth) ?_ h1 h2 e3 rfl rfl (fun j T e => by simp at e) (Same.refl _) fun H' s' acc' c' Ts' I' hS' ea et pr sm => ?_⟩
  · intro b hb
    rcases List.mem_cons.mp hb with rfl | hb
    · exact fpS
    · exact fp b hb
  · show wpAny _ A (load S0 >>= _) _ _ s'
    refine wpAny_bind (wpAny_load hS' (wpAny_pure ?_))
    show Q acc'.toList s'
    rw [ea]
    exact hQ H' s' Ts' I' et pr sm
theorem new_zip {A : Around} {Q₁ : Value → Shared → Prop} (hh : A.handled = none) (D : ZipApart z TI TO i1 i2 l1 l2) (hn : min xs.length ys.length ≤ sizeLine) (I : Inv X pins σ H s) (hz : IsZip s.heap z TI TO .none) (hTI : IsPair s.heap TI (.ref i1) (.ref i2)) (hTO : ∃ a b, IsPair s.heap TO a b)
    (k1 : s.heap.IsListIter i1 l1 0) (k2 : s.heap.IsListIter i2 l2 0) (fp : ∀ b ∈ ch5 z TI TO i1 i2, FpOk X pins H b) (h1 : SqL X.K H l1 xs) (h2 : SqL X.K H l2 ys)
    (hQ : ∀ H' s' Ts, Inv X pins σ H' s' → Ts.length = min xs.length ys.length → Pairs H H' xs ys Ts → Same H H' → Q₁ (.ref s'.heap.objs.size) { s' with heap := s'.heap.push { cls := .type "tuple", data := .seq (Ts.map Value.ref).toArray } }) :
    codeAny (model X.prog X.w) A (.call (.builtin "tuple.__new__") ⟨[.type "tuple", .ref z], []⟩) (wants Q₁ E) s := by
  refine codeAny_of_tree ?_
  show wpAny _ A.in1 (do checkBuiltinCall "tuple.__new__" ⟨[.type "tuple", .ref z], []⟩; again (.builtin "tuple.__new__" ⟨[.type "tuple", .ref z], []⟩)) _ _ s
  refine wpAny_bind (wpAny_of_eq (F.newCall_tuple_1 _) (wpAny_pure ⟨plainId_quiet F.plain_tuple_new _, codeAny_builtin F.entry_tuple_new ?_⟩))
  rw [Around.under_plainId F.plain_tuple_new _]
  have hsub := sub_tuple_self
  have hinit := init_tuple_lookup
  have hmh := madeHere_tuple
  have ty : s.TypeIs (.ref z) "zip" := ⟨_, hz, rfl⟩
  have hh1 : A.in1.handled = none := hh
  wp_walk using wpAny_typeOf ty, collect_zip (A := A.in1) hh1 D hn I hz hTI hTO k1 k2 fp h1 h2
  intro H' s' Ts I' et pr sm
  show wpAny _ _ (Builtin.Tuple.tupleExact (Ts.map Value.ref).toArray >>= fun v => ret v) _ _ _
  unfold Builtin.Tuple.tupleExact
  refine wpAny_bind (wpAny_newObj_type ?_ (by show (Ts.map Value.ref).toArray.size ≤ sizeLine; rw [List.size_toArray, List.length_map, et]; exact hn))
  exact wpAny_pure (hQ H' s' Ts I' et pr sm)
/-- tuple(zip(xs, ys)) -/
def tTupZip (K : PySem.W.Frag) (ta : TA) : TE := fun σ H Q => ta σ H fun vs H1 => ∃ a b xs ys, vs = [.ref a, .ref b] ∧ SqL K H1 a xs ∧ SqL K H1 b ys ∧ min xs.length ys.length ≤ sizeLine ∧
  ∀ H' Ts, Same H1 H' → Ts.length = min xs.length ys.length → Pairs H1 H' xs ys Ts → ∀ p, H' p = none → Q (.ref p) (upd H' p (.tup (Ts.map V.ref)))
theorem pe_tupZip {e e2 : Expr} {ta : TA} {p p2 pos pos2 : Pos} (hc : X.calm = true) (hg : Gl X "tuple") (hm : X.mg "tuple" = none) (hg2 : Gl X "zip") (hm2 : X.mg "zip" = none) (ha : PA X [e, e2] ta) (n1 : notStar e = true) (n2 : notStar e2 = true) :
    PE X (.Call (.Name "tuple" p) [.Call (.Name "zip" p2) [e, e2] [] pos2] [] pos) (tTupZip X.K ta) := by
  refine ⟨fun pins s σ H Q I h => ?_⟩
  have star2 : starEach [e, e2] X.env = (false, eval e X.env) :: starEach [e2] X.env := by cases e <;> first | rfl | cases n1
  have pl2 : (backTo pos2 (starEach [e2] X.env)).any (·.1) = false := by cases e2 <;> first | rfl | cases n2
  refine Call_ (ld_blt I hg hm boot_tuple (PyProof.Rows.callWith_type1 (args_cons (Call_ (ld_blt I hg2 hm2 PyProof.Rows.boot_zip (PyProof.Rows.callWith_type1 (thn (ha.run pos2 pins s σ H _ I h) fun us s1 ⟨vs, H1, I1, r1, q1⟩ => ?_) star2 pl2))) rfl) rfl))
  obtain ⟨a, b, xs, ys, ex, hx, hy, hn, q⟩ := q1
  subst ex
  cases r1 with
  | cons r rr =>
    cases rr with
    | cons r' rr =>
      cases rr
      cases r
      cases r'
      obtain ⟨its, rv, l1, _⟩ := I1.list hx
      obtain ⟨its2, rv2, l2, _⟩ := I1.list hy
      have fresh5 : ∀ c, c ∈ ch5 (s1.heap.objs.size + 4) (s1.heap.objs.size + 2) (s1.heap.objs.size + 3) s1.heap.objs.size (s1.heap.objs.size + 1) → FpOk X pins H1 c := fun c hcm => by
        have le : s1.heap.objs.size ≤ c := by
          simp only [ch5, List.mem_cons, List.not_mem_nil, or_false] at hcm
          rcases hcm with q | q | q | q | q <;> rw [q] <;> first | exact Nat.le_refl _ | exact Nat.le_add_right _ _
        exact I1.fpOk le (I1.hok.fresh le)
      refine call_zip_2 l1.isList l2.isList fun h' hz hTI hTO k1 k2 hsz hk => args_nil ?_
      have I2 : Inv X pins σ H1 { s1 with heap := h' } := I1.kept (t' := s1.toks) hk
      refine callType_codes (Q₁ := fun obj s2 => s2.TypeIs obj "tuple" ∧ EP X pins σ Q obj s2) F.called_tuple (F.typeCall_tuple_1 _) F.entry_object_init
        (new_zip (A := X.A.in1) (I2.ok.hd hc) (PySem.W.ktu_apart s1.heap.objs.size a b l1.lt l2.lt) hn I2 hz hTI ⟨_, _, hTO⟩ k1 k2 fresh5 hx hy fun H' s' Ts I' et pr sm => ⟨⟨_, Heap.get?_push_size _ rfl, rfl⟩, ?_⟩) fun obj s2 hh => ?_
      · have vals : Vals (Ts.map V.ref) (Ts.map Value.ref) := by
          clear et pr
          induction Ts with
          | nil => exact .nil
          | cons T Ts ih => exact .cons rfl ih
        refine ⟨.ref s'.heap.objs.size, upd H' s'.heap.objs.size (.tup (Ts.map V.ref)), I'.laid (t' := s'.toks) (fun c o e => Heap.get?_push_of_some _ e) (Nat.le_refl _) ⟨by rw [List.length_map, et]; exact hn, Ts.map Value.ref, vals, IsTup.new _ _⟩, rfl, q H' Ts sm et pr _ (I'.hok.fresh (Nat.le_refl _))⟩
      · exact ⟨hh.1, F.args_object_init_2 obj _, object_init_meets F.called_tuple.init.lookup F.called_tuple.made (by decide) X.prog X.w X.A.in1 _ s2 ⟨hh.1, rfl, hh.2⟩⟩
end
end VE

set_option Elab.async false
set_option linter.all false
set_option maxRecDepth 100000
set_option maxHeartbeats 4000000
/-! VE, part 8: the rule of each kind of expression. -/
namespace VE
open PySem PySem.Spec PyProof.Rows L2

/-- a def's contract -/
def spR (K : PySem.W.Frag) (ca : Nat → Addr) (rc : Nat → List D → Sto → Res D) (f : Nat) (F : Fn) : Sp := fun vs H Q E => ∃ g S ds, Bs K ca g S H ∧ Reps K ca g vs ds ∧ vs.length = F.np ∧ PostN K ca (fun cls d _ H' => E cls d H') F.fresh g H [] (rc f ds S) Q
def biNames : List Str := ["len", "int", "str", "abs", "max", "min", "sum", "all", "any", "list", "tuple", "sorted", "repr", "isinstance", "bool", "range", "zip", "enumerate", "set", "dict"]
structure FnR (X : Cx) (K : PySem.W.Frag) (ca : Nat → Addr) (rc : Nat → List D → Sto → Res D) (f : Nat) (x : Str) (F : Fn) : Prop where
  len : ∀ ds S, rc f ds S ≠ .err → ds.length = F.np
  ok : ∃ k fa fd ps, FnG X.prog X.w X.K X.mg X.base (L2.CX X.prog X.w) k fa fd ps (spR K ca rc f F) ∧ Room k X.A ∧ X.mg x = some (.ref fa) ∧ PySem.W.keepIn X.K (.ref fa) = true ∧ L2.Binds X.K fd ps []
/-- a method's contract -/
structure MtR (X : Cx) (K : PySem.W.Frag) (ca : Nat → Addr) (rc : Nat → List D → Sto → Res D) (f c : Nat) (m : Str) (F : Fn) : Prop where
  len : ∀ ds S, rc f ds S ≠ .err → ds.length = F.np
  ok : ∃ k fa fd ps, FnG X.prog X.w X.K X.mg X.base (L2.CX X.prog X.w) k fa fd ps (spR K ca rc f F) ∧ Room (k + 1) X.A ∧ Meth X.K (ca c) m fa ∧ L2.Binds X.K fd ps [] ∧ (m = Str.ofString "__init__" → Mk X.K (ca c) fa)
/-- a dict of the module, texts to ints -/
def KD (K : PySem.W.Frag) (w : World) (a : Addr) (es : List (Str × Int)) : Prop := ∃ ds n, KDict K w a ds n ∧ ∀ z, (∃ v t, es.lookup z = some v ∧ PySem.W.nsIn K a z = some (some (.int v t))) ∨ (es.lookup z = none ∧ PySem.W.nsIn K a z = some none)
structure XO (X : Cx) (u : Su) (p : Pg) (rc : Nat → List D → Sto → Res D) (sc : Scope) : Prop where
  nd : X.N.Nodup
  scope : X.env.scope = sc
  calm : X.calm = true
  un : X.A.units + 66 < cLine
  gd : X.A.guards = some []
  K : u.K = X.K
  gl : ∀ (k : Nat) (x : Str), p.gn[k]? = some x → ∃ d v w, p.gl[k]? = some d ∧ X.mg x = some w ∧ RelV v w ∧ d.isMut = false ∧ ∀ g, Rep u.K u.ca g v d
  bi : ∀ x ∈ biNames, X.mg x = none
  fn : ∀ (f : Nat) (x : Str), p.fnn[f]? = some x → p.mts[f]? = some none → ∃ F, p.fns[f]? = some F ∧ FnR X u.K u.ca rc f x F
  mt : ∀ (f c : Nat) (m : Str), p.mts[f]? = some (some (c, m)) → ∃ F, p.fns[f]? = some F ∧ MtR X u.K u.ca rc f c m F
  cl : ∀ (c : Nat) (k : Str × List Str), p.cls[c]? = some k → X.mg k.1 = some (.ref (u.ca c)) ∧ Cls X.K (u.ca c) ∧ ∀ x ∈ k.2, NoAttr X.K (u.ca c) x
  dt : ∀ q ∈ p.dts, ∃ a, X.mg q.1 = some (.ref a) ∧ KD X.K X.w a q.2
  takes : Takes X u.W

/-- what is told of an expression in each mode -/
def Ok (X : Cx) (u : Su) (m : Md) (fr : Bool) (f : Env → Sto → Res D) (e : Expr) : Prop := match m with
  | .use => PE X e (rN u fr f)
  | .it => PE X e (rN u fr f)
  | .peek => PE X e (rP u f)
  | .test => PT X e (rT u fun env S => (f env S).bind tru)
def plainTest : Expr → Bool
  | .UnaryOp .Not _ _ => false
  | .BoolOp _ _ _ => false
  | .IfExp _ _ _ _ => false
  | .Compare _ _ _ _ => false
  | _ => true

section
variable {X : Cx} {u : Su} {g : Gh} {env : Env} {S : Sto} {σ : L2.St} {H : Hp} {v w : V} {x y d : D} {Q : VK} {fr : Bool} {f f1 f2 f3 : Env → Sto → Res D} {e ea eb ec : Expr} {pos : Pos} {m : Md}
theorem true_of {e : Expr} (h : plainTest e = true) (env : PySem.Env) (whole : Sem Value) : PySem.isTrue e env whole = (do
    let v ← whole
    standAt (Expr.pos e)
    holding [v] (truthy v)) := by
  cases e <;> first | rfl | cases h | skip
  rename_i o a b
  cases o <;> first | rfl | cases h
theorem tru_post {W : WX} {K : PySem.W.Frag} {ca : Nat → Addr} {Q : Bool → Hp → Prop} {g' : Gh} {H' : Hp} {S' : Sto} (b : Bs K ca g' S' H') (f : Fr g H g' H') (p : PostT K ca W g H σ (tru d S') Q) (h : RepH K ca g' H' v d) : ∃ k, TruV K v H' k ∧ Q k H' := by
  cases e : d.tru with
  | none =>
    unfold tru at p
    rw [e] at p
    exact p.elim
  | some k =>
    unfold tru at p
    rw [e] at p
    exact ⟨k, h.tru b.sub e, p H' g' b f⟩
theorem pt_of (hK : u.K = X.K) (h : PE X e (rP u f)) (pl : plainTest e = true) : PT X e (rT u fun env S => (f env S).bind tru) := by
  refine (pt_truth h (true_of pl X.env)).imp fun σ H Q ⟨g, env, S, r, p⟩ => ⟨g, env, S, r, ?_⟩
  dsimp only at p
  cases q : f env S with
  | ok d S' =>
    rw [q] at p
    intro v H' g' b fr' rp
    rw [← hK]
    exact tru_post b fr' p rp
  | exc x S' =>
    rw [q] at p
    exact p
  | err =>
    rw [q] at p
    exact p
theorem ok_of (hK : u.K = X.K) (h : PE X e (rN u fr f)) (pl : plainTest e = true) : Ok X u m fr f e := by
  cases m with
  | use => exact h
  | it => exact h
  | peek => exact h.frozen.peeked
  | test => exact pt_of hK h.frozen.peeked pl
theorem ok_peek (h : Ok X u .peek fr f e) : PE X e (rP u f) := h
theorem ok_use (h : Ok X u .use fr f e) : PE X e (rE u f) := PE.frozen h
theorem ok_test (h : Ok X u .test fr f e) : PT X e (rT u fun env S => (f env S).bind tru) := h
/-- an expression that is compared -/
theorem ok_cmp {t : TE} (he : PE X e t) (ht : PT X e (tTest t)) (hi : ∀ σ H Q, rE u f σ H Q → t σ H Q) (hb : ∀ env S d S', f env S = .ok d S' → ∃ b, d = .bl b) : Ok X u m false f e := by
  have h1 : PE X e (rN u false f) := he.imp hi
  cases m with
  | use => exact h1
  | it => exact h1
  | peek => exact h1.frozen.peeked
  | test =>
    refine ht.imp fun σ H Q ⟨g, env, S, r, p⟩ => hi σ H _ ⟨g, env, S, r, ?_⟩
    dsimp only at p
    cases q : f env S with
    | ok d S' =>
      rw [q] at p
      obtain ⟨b, rfl⟩ := hb _ _ _ _ q
      intro v H' g' b' f' n
      have n : Rep u.K u.ca g' v (.bl b) := n
      cases n
      exact ⟨b, rfl, p H' g' b' f'⟩
    | exc x S' =>
      rw [q] at p
      exact p
    | err =>
      rw [q] at p
      exact p
/-! ### simple ones -/
theorem e_const {v : V} {d : D} (h : PE X e (tC v)) (hr : ∀ g, Rep u.K u.ca g v d) (hd : d.isMut = false) : PE X e (rN u fr fun _ S => .ok d S) :=
  h.imp fun σ H Q ⟨g, env, S, r, p⟩ => p.here r (hr g) hd
theorem vis_of {sc : Scope} {x : Str} (h : visB sc x = true) : Vis sc x := by
  unfold visB at h
  simp only [Bool.or_eq_true, decide_eq_true_eq] at h
  exact h
theorem glo_of {X : Cx} {sc : Scope} {x : Str} (hs : X.env.scope = sc) (h : gloB sc x = true) : Gl X x := by
  unfold gloB at h
  rw [decide_eq_true_eq] at h
  show X.env.scope.names.lookup x = _
  rw [hs]
  exact h
theorem plain_of {x : Str} (h : plainN x = true) : (x == ("__debug__" : Str)) = false ∧ (x == ("__classdict__" : Str)) = false ∧ x ≠ "__name__" := by
  unfold plainN at h
  simpa only [Bool.and_eq_true, Bool.not_eq_true', decide_eq_true_eq] using h
def fVar (i : Nat) : Env → Sto → Res D := fun env S => match env[i]? with
  | some (some d) => .ok d S
  | _ => .err
theorem var_slot {i : Nat} (r : u.SR g env S σ H) {P : Res D → Prop} (p : P (fVar i env S)) (ne : ¬ P .err) : ∃ d v, env[i]? = some (some d) ∧ σ[i]? = some (some v) ∧ SlotOk u.K u.ca u.H0 u.o g H i v d ∧ P (.ok d S) := by
  unfold fVar at p
  split at p
  · rename_i d e
    obtain ⟨v, h1, h2⟩ := r.slot i d e
    exact ⟨d, v, e, h1, h2, p⟩
  · exact absurd p ne
theorem e_var_use {i : Nat} {n : Str} (hN : X.N[i]? = some n) (hv : Vis X.env.scope n) (hp : plainN n = true) (ho : own u.o i = false) : PE X (.Name n pos) (rN u false (fVar i)) := by
  obtain ⟨p1, p2, _⟩ := plain_of hp
  refine (pe_var hN hv p1 p2).imp fun σ H Q ⟨g, env, S, r, p⟩ => ?_
  obtain ⟨d, v, e, h1, h2, p⟩ := var_slot r (P := fun x => PostN u.K u.ca u.W false g H σ x Q) p (fun z => z)
  rw [SlotOk.frz_ (by rw [ho]; rfl)] at h2
  exact ⟨v, h1, p.there r h2⟩
theorem e_var_peek {i : Nat} {n : Str} (hN : X.N[i]? = some n) (hv : Vis X.env.scope n) (hp : plainN n = true) : PE X (.Name n pos) (rP u (fVar i)) := by
  obtain ⟨p1, p2, _⟩ := plain_of hp
  refine (pe_var hN hv p1 p2).imp fun σ H Q ⟨g, env, S, r, p⟩ => ?_
  obtain ⟨d, v, e, h1, h2, p⟩ := var_slot r (P := fun x => PostP u.K u.ca u.W g H σ x Q) p (fun z => z)
  refine ⟨v, h1, p v H g r.bs (Fr.refl g H) ?_⟩
  unfold SlotOk at h2
  split at h2
  · obtain ⟨a, rfl, _, _, nf, h⟩ := h2
    exact .inr ⟨a, rfl, nf, h⟩
  · exact .inl h2
/-! ### operators -/
theorem e_bin (hK : u.K = X.K) {o : Op2} (ha : PE X ea (rP u f1)) (hb : PE X eb (rP u f2)) : PE X (.BinOp ea (pyOp o) eb pos) (rN u true fun env S => (f1 env S).bind fun x S => (f2 env S).bind fun y S => lift (evBin o x y) S) := by
  obtain ⟨r, hr, ok⟩ := bin_rule hK o
  exact (pe_op hr ha hb).imp fun σ H Q ⟨g, env, S, sr, p⟩ => bindP sr p fun x v S1 g1 H1 s1 _ rx p1 => bindP s1 p1 fun y w S2 g2 H2 s2 fr2 ry p2 => ok g2 env S2 σ H2 v w x y Q s2 (rx.fr fr2) ry p2
theorem e_neg (ha : PE X ea (rP u f1)) : PE X (.UnaryOp .USub ea pos) (rN u fr fun env S => (f1 env S).bind fun x S => match x with
    | .int i => .ok (.int (-i)) S
    | _ => .err) := by
  refine (pe_un un_neg ha).imp fun σ H Q ⟨g, env, S, sr, p⟩ => bindP sr p fun x v S1 g1 H1 s1 _ rx p1 => ?_
  cases x <;> first | exact p1.elim | skip
  exact ⟨_, rx.int_inv, p1.here s1 (.int _) rfl⟩
theorem e_no (hK : u.K = X.K) (ha : PE X ea (rP u f1)) : PE X (.UnaryOp .Not ea pos) (rN u fr fun env S => (f1 env S).bind fun x S => (tru x S).bind fun b S => .ok (.bl (!b)) S) := by
  refine (pe_notT ha).imp fun σ H Q ⟨g, env, S, sr, p⟩ => bindP sr p fun x v S1 g1 H1 s1 _ rx p1 => ?_
  rw [← hK]
  refine tru_post (σ := σ) (W := u.W) (Q := fun k H' => Q (.bl !k) H') s1.bs (Fr.refl _ _) ?_ rx
  unfold tru at p1 ⊢
  cases q : x.tru with
  | none =>
    rw [q] at p1
    exact p1
  | some b =>
    rw [q] at p1
    exact fun H' g' b' f' => p1 (.bl !b) H' g' b' f' (NewD.imm_rep (.bl _) rfl)
theorem t_no (ha : PT X ea (rT u fun env S => (f1 env S).bind tru)) : PT X (.UnaryOp .Not ea pos) (rT u fun env S => ((f1 env S).bind fun x S => (tru x S).bind fun b S => .ok (.bl (!b)) S).bind tru) := by
  refine (pt_not ha).imp fun σ H Q ⟨g, env, S, sr, p⟩ => ⟨g, env, S, sr, ?_⟩
  dsimp only at p ⊢
  cases q : f1 env S with
  | ok d S' =>
    rw [q] at p
    simp only [Res.ok_bind] at p ⊢
    unfold tru at p ⊢
    cases q : d.tru with
    | none =>
      rw [q] at p
      exact p
    | some b =>
      rw [q] at p
      exact p
  | exc x S' =>
    rw [q] at p
    exact p
  | err =>
    rw [q] at p
    exact p
theorem bind_bl {o : Option Bool} {S : Sto} {d : D} {S' : Sto} (h : ((lift o S).bind fun b S => .ok (.bl b) S) = .ok d S') : ∃ b, d = .bl b := by
  cases o with
  | none => cases h
  | some b =>
    cases h
    exact ⟨b, rfl⟩
theorem bind2_bl {α β : Type} {r : Res α} {k : α → Sto → Res β} {P : Prop} {d : β} {S' : Sto} (h : r.bind k = .ok d S') (hk : ∀ a S, k a S = .ok d S' → P) : P := by
  cases r with
  | ok a S => exact hk a S h
  | exc x S => cases h
  | err => cases h
theorem e_cmp (hK : u.K = X.K) (hu : X.A.units + 66 < cLine) {c : Cm} (ha : PE X ea (rP u f1)) (hb : PE X eb (rP u f2)) (hm : behindInMarks (pyCm c) eb = false) :
    Ok X u m false (fun env S => (f1 env S).bind fun x S => (f2 env S).bind fun y S => (lift (evCmp c x y) S).bind fun b S => .ok (.bl b) S) (.Compare ea [pyCm c] [eb] pos) := by
  obtain ⟨r, hr, ok⟩ := cmp_rule hK (by omega) c
  refine ok_cmp (pe_cmpR hr ha hb hm) (pt_cmpR hr ha hb hm) (fun σ H Q ⟨g, env, S, sr, p⟩ => bindP sr p fun x v S1 g1 H1 s1 _ rx p1 => bindP s1 p1 fun y w S2 g2 H2 s2 fr2 ry p2 => ?_) fun env S d S' h => ?_
  · cases q : evCmp c x y with
    | none =>
      rw [q] at p2
      exact p2.elim
    | some b =>
      rw [q] at p2
      exact ok g2 S2 H2 v w x y Q b s2.bs (rx.fr fr2) ry q (p2.here s2 (.bl _) rfl)
  · exact bind2_bl h fun a S h => bind2_bl h fun a S h => bind_bl h
theorem e_chn (hK : u.K = X.K) (hu : X.A.units + 66 < cLine) {c c' : Cm} (ha : PE X ea (rP u f1)) (hb : PE X eb (rP u f2)) (hc : PE X ec (rP u f3)) (hm : lastMarks [pyCm c, pyCm c'] [eb, ec] = false) :
    Ok X u m false (fun env S => (f1 env S).bind fun x S => (f2 env S).bind fun y S => (lift (evCmp c x y) S).bind fun k S =>
      if k then (f3 env S).bind fun z S => (lift (evCmp c' y z) S).bind fun k S => .ok (.bl k) S else .ok (.bl false) S) (.Compare ea [pyCm c, pyCm c'] [eb, ec] pos) := by
  obtain ⟨r, hr, ok⟩ := cmp_rule hK (by omega) c
  obtain ⟨r', hr', ok'⟩ := cmp_rule hK (by omega) c'
  refine ok_cmp (pe_chain hr hr' ha hb hc hm) (pt_chain hr hr' ha hb hc hm) (fun σ H Q ⟨g, env, S, sr, p⟩ => bindP sr p fun x v S1 g1 H1 s1 _ rx p1 => bindP s1 p1 fun y w S2 g2 H2 s2 fr2 ry p2 => ?_) fun env S d S' h => ?_
  · cases q : evCmp c x y with
    | none =>
      rw [q] at p2
      exact p2.elim
    | some b =>
      rw [q] at p2
      refine ok g2 S2 H2 v w x y _ b s2.bs (rx.fr fr2) ry q ⟨b, rfl, ?_⟩
      cases b with
      | false => exact p2.here s2 (.bl _) rfl
      | true =>
        refine bindP s2 p2 fun z w' S3 g3 H3 s3 fr3 rz p3 => ?_
        cases q : evCmp c' y z with
        | none =>
          rw [q] at p3
          exact p3.elim
        | some b =>
          rw [q] at p3
          exact ok' g3 S3 H3 w w' y z Q b s3.bs (ry.fr fr3) rz q (p3.here s3 (.bl _) rfl)
  · refine bind2_bl h fun a S h => bind2_bl h fun a S h => bind2_bl h fun k S h => ?_
    cases k with
    | false =>
      cases h
      exact ⟨_, rfl⟩
    | true => exact bind2_bl (show (f3 env S).bind _ = _ from h) fun a S h => bind_bl h
theorem isN_dec (h : RepH u.K u.ca g H v x) : decide (v = .non) = x.isNon := by
  rcases h with h | ⟨a, rfl, nf, h⟩
  · cases h <;> rfl
  · cases x <;> first | exact h.elim | rfl
theorem e_isN (ha : PE X ea (rP u f1)) {j : Nat} {p2 : Pos} : Ok X u m false (fun env S => (f1 env S).bind fun x S => .ok (.bl x.isNon) S) (.Compare ea [.Is] [.Constant .none j p2] pos) := by
  refine ok_cmp (pe_cmpR op_isN ha pe_non rfl) (pt_cmpR op_isN ha pe_non rfl) (fun σ H Q ⟨g, env, S, sr, p⟩ => bindP sr p fun x v S1 g1 H1 s1 _ rx p1 => ⟨rfl, ?_⟩) fun env S d S' h => bind2_bl h fun a S h => ?_
  · rw [isN_dec rx]
    exact p1.here s1 (.bl _) rfl
  · cases h
    exact ⟨_, rfl⟩
theorem e_notN (ha : PE X ea (rP u f1)) {j : Nat} {p2 : Pos} : Ok X u m false (fun env S => (f1 env S).bind fun x S => .ok (.bl !x.isNon) S) (.Compare ea [.IsNot] [.Constant .none j p2] pos) := by
  refine ok_cmp (pe_cmpR op_notN ha pe_non rfl) (pt_cmpR op_notN ha pe_non rfl) (fun σ H Q ⟨g, env, S, sr, p⟩ => bindP sr p fun x v S1 g1 H1 s1 _ rx p1 => ⟨rfl, ?_⟩) fun env S d S' h => bind2_bl h fun a S h => ?_
  · rw [isN_dec rx]
    exact p1.here s1 (.bl _) rfl
  · cases h
    exact ⟨_, rfl⟩
theorem e_isB (ha : PE X ea (rP u f1)) {c : Bool} {j : Nat} {p2 : Pos} : Ok X u m false (fun env S => (f1 env S).bind fun x S => match x with
    | .bl b => .ok (.bl (decide (b = c))) S
    | _ => .err) (.Compare ea [.Is] [.Constant (.bool c) j p2] pos) := by
  refine ok_cmp (pe_cmpR op_isBl ha pe_bl rfl) (pt_cmpR op_isBl ha pe_bl rfl) (fun σ H Q ⟨g, env, S, sr, p⟩ => bindP sr p fun x v S1 g1 H1 s1 _ rx p1 => ?_) fun env S d S' h => bind2_bl h fun a S h => ?_
  · cases x <;> first | exact p1.elim | skip
    exact ⟨_, _, rx.bl_inv, rfl, p1.here s1 (.bl _) rfl⟩
  · cases a <;> cases h
    exact ⟨_, rfl⟩
theorem e_notB (ha : PE X ea (rP u f1)) {c : Bool} {j : Nat} {p2 : Pos} : Ok X u m false (fun env S => (f1 env S).bind fun x S => match x with
    | .bl b => .ok (.bl (!decide (b = c))) S
    | _ => .err) (.Compare ea [.IsNot] [.Constant (.bool c) j p2] pos) := by
  refine ok_cmp (pe_cmpR op_notBl ha pe_bl rfl) (pt_cmpR op_notBl ha pe_bl rfl) (fun σ H Q ⟨g, env, S, sr, p⟩ => bindP sr p fun x v S1 g1 H1 s1 _ rx p1 => ?_) fun env S d S' h => bind2_bl h fun a S h => ?_
  · cases x <;> first | exact p1.elim | skip
    exact ⟨_, _, rx.bl_inv, rfl, p1.here s1 (.bl _) rfl⟩
  · cases a <;> cases h
    exact ⟨_, rfl⟩
/-! ### and, or, if -/
theorem e_and {es : List Expr} (ha : PE X ea (rE u f1)) (hb : PE X (.BoolOp .And (eb :: es) pos) (rE u f2)) : PE X (.BoolOp .And (ea :: eb :: es) pos) (rE u fun env S => (f1 env S).bind fun x S => match x with
    | .bl true => f2 env S
    | .bl false => .ok (.bl false) S
    | _ => .err) := by
  refine (pe_and ha hb).imp fun σ H Q ⟨g, env, S, sr, p⟩ => bindE sr p fun x v S1 g1 H1 s1 _ rx p1 => ?_
  cases x <;> first | exact p1.elim | skip
  rename_i b
  refine ⟨b, RepH.bl_inv (H := H1) (.inl rx), ?_⟩
  cases b with
  | true => exact ⟨g1, env, S1, s1, p1⟩
  | false => exact p1.here s1 (.bl _) rfl
theorem e_or {es : List Expr} (ha : PE X ea (rE u f1)) (hb : PE X (.BoolOp .Or (eb :: es) pos) (rE u f2)) : PE X (.BoolOp .Or (ea :: eb :: es) pos) (rE u fun env S => (f1 env S).bind fun x S => match x with
    | .bl true => .ok (.bl true) S
    | .bl false => f2 env S
    | _ => .err) := by
  refine (pe_or ha hb).imp fun σ H Q ⟨g, env, S, sr, p⟩ => bindE sr p fun x v S1 g1 H1 s1 _ rx p1 => ?_
  cases x <;> first | exact p1.elim | skip
  rename_i b
  refine ⟨b, RepH.bl_inv (H := H1) (.inl rx), ?_⟩
  cases b with
  | true => exact p1.here s1 (.bl _) rfl
  | false => exact ⟨g1, env, S1, s1, p1⟩
theorem t_and {es : List Expr} (ha : PT X ea (rT u fun env S => (f1 env S).bind tru)) (hb : PW X (.BoolOp .And (eb :: es) pos) (rT u fun env S => (f2 env S).bind tru)) : PW X (.BoolOp .And (ea :: eb :: es) pos) (rT u fun env S => ((f1 env S).bind fun x S => match x with
    | .bl true => f2 env S
    | .bl false => .ok (.bl false) S
    | _ => .err).bind tru) := by
  refine (pw_and ha hb).imp fun σ H Q ⟨g, env, S, sr, p⟩ => ⟨g, env, S, sr, ?_⟩
  dsimp only at p ⊢
  cases q : f1 env S with
  | ok x S' =>
    rw [q] at p
    cases x <;> first | exact p.elim | skip
    rename_i b
    cases b with
    | true => exact fun H' g' b' f' => ⟨g', env, S', sr.next f' b', PostT.later f' p⟩
    | false => exact fun H' g' b' f' => p H' g' b' f'
  | exc x S' =>
    rw [q] at p
    exact p
  | err =>
    rw [q] at p
    exact p
theorem t_or {es : List Expr} (ha : PT X ea (rT u fun env S => (f1 env S).bind tru)) (hb : PW X (.BoolOp .Or (eb :: es) pos) (rT u fun env S => (f2 env S).bind tru)) : PW X (.BoolOp .Or (ea :: eb :: es) pos) (rT u fun env S => ((f1 env S).bind fun x S => match x with
    | .bl true => .ok (.bl true) S
    | .bl false => f2 env S
    | _ => .err).bind tru) := by
  refine (pw_or ha hb).imp fun σ H Q ⟨g, env, S, sr, p⟩ => ⟨g, env, S, sr, ?_⟩
  dsimp only at p ⊢
  cases q : f1 env S with
  | ok x S' =>
    rw [q] at p
    cases x <;> first | exact p.elim | skip
    rename_i b
    cases b with
    | true => exact fun H' g' b' f' => p H' g' b' f'
    | false => exact fun H' g' b' f' => ⟨g', env, S', sr.next f' b', PostT.later f' p⟩
  | exc x S' =>
    rw [q] at p
    exact p
  | err =>
    rw [q] at p
    exact p
theorem e_ite (hc : PT X ec (rT u fun env S => (f1 env S).bind tru)) (ha : PE X ea (rE u f2)) (hb : PE X eb (rE u f3)) : PE X (.IfExp ec ea eb pos) (rE u fun env S => (f1 env S).bind fun x S => (tru x S).bind fun k S => if k then f2 env S else f3 env S) := by
  refine (pe_ifExp hc ha hb).imp fun σ H Q ⟨g, env, S, sr, p⟩ => ⟨g, env, S, sr, ?_⟩
  dsimp only at p ⊢
  cases q : f1 env S with
  | ok x S' =>
    rw [q] at p
    simp only [Res.ok_bind] at p ⊢
    cases z : tru x S' with
    | ok k S1 =>
      rw [z] at p
      simp only [Res.ok_bind] at p
      cases k with
      | true => exact fun H' g' b' f' => ⟨g', env, S1, sr.next f' b', PostN.later f' p⟩
      | false => exact fun H' g' b' f' => ⟨g', env, S1, sr.next f' b', PostN.later f' p⟩
    | exc x S1 =>
      rw [z] at p
      exact p
    | err =>
      rw [z] at p
      exact p
  | exc x S' =>
    rw [q] at p
    exact p
  | err =>
    rw [q] at p
    exact p
/-! ### lists of expressions -/
theorem star_cons {e : Expr} (h : notStar e = true) (es : List Expr) (env : PySem.Env) : starEach (e :: es) env = (false, eval e env) :: starEach es env := by
  cases e <;> first | rfl | cases h
theorem l_nilP : PA X [] (rPs u fun _ S => .ok [] S) := ⟨fun pos pins s σ H Q I ⟨g, env, S, sr, p⟩ => pa_nil.run pos pins s σ H Q I (p [] H g sr.bs (Fr.refl g H) .nil)⟩
theorem l_nilE : PA X [] (rEs u fun _ S => .ok [] S) := ⟨fun pos pins s σ H Q I ⟨g, env, S, sr, p⟩ => pa_nil.run pos pins s σ H Q I (p [] H g sr.bs (Fr.refl g H) .nil)⟩
theorem l_consE {es : List Expr} {fs : Env → Sto → Res (List D)} (hn : notStar ea = true) (ha : PE X ea (rE u f1)) (hb : PA X es (rEs u fs)) : PA X (ea :: es) (rEs u fun env S => (f1 env S).bind fun x S => (fs env S).bind fun xs S => .ok (x :: xs) S) := by
  refine (pa_cons ha hb (star_cons hn es X.env)).imp fun σ H Q ⟨g, env, S, sr, p⟩ => ⟨g, env, S, sr, ?_⟩
  dsimp only at p ⊢
  cases q : f1 env S with
  | ok x S1 =>
    rw [q] at p
    intro v H1 g1 b1 f1' n1
    refine ⟨g1, env, S1, sr.next f1' b1, ?_⟩
    simp only [Res.ok_bind] at p
    cases q2 : fs env S1 with
    | ok xs S2 =>
      rw [q2] at p
      exact fun vs H2 g2 b2 f2 n2 => p (v :: vs) H2 g2 b2 (f1'.trans f2) (.cons (n1.mono f2.le) n2)
    | exc x S' =>
      rw [q2] at p
      exact Wish.later f1' p
    | err =>
      rw [q2] at p
      exact p
  | exc x S' =>
    rw [q] at p
    exact p
  | err =>
    rw [q] at p
    exact p
theorem l_consP {es : List Expr} {fs : Env → Sto → Res (List D)} (hn : notStar ea = true) (ha : PE X ea (rP u f1)) (hb : PA X es (rPs u fs)) : PA X (ea :: es) (rPs u fun env S => (f1 env S).bind fun x S => (fs env S).bind fun xs S => .ok (x :: xs) S) := by
  refine (pa_cons ha hb (star_cons hn es X.env)).imp fun σ H Q ⟨g, env, S, sr, p⟩ => ⟨g, env, S, sr, ?_⟩
  dsimp only at p ⊢
  cases q : f1 env S with
  | ok x S1 =>
    rw [q] at p
    intro v H1 g1 b1 f1' n1
    refine ⟨g1, env, S1, sr.next f1' b1, ?_⟩
    simp only [Res.ok_bind] at p
    cases q2 : fs env S1 with
    | ok xs S2 =>
      rw [q2] at p
      exact fun vs H2 g2 b2 f2 n2 => p (v :: vs) H2 g2 b2 (f1'.trans f2) (.cons (n1.fr f2) n2)
    | exc x S' =>
      rw [q2] at p
      exact Wish.later f1' p
    | err =>
      rw [q2] at p
      exact p
  | exc x S' =>
    rw [q] at p
    exact p
  | err =>
    rw [q] at p
    exact p
theorem e_tup {es : List Expr} {k : Nat} {fs : Env → Sto → Res (List D)} (hl : ∀ env S ds S', fs env S = .ok ds S' → ds.length ≤ 1000) (h : PA X es (rEs u fs)) : PE X (.Tuple es k pos) (rN u fr fun env S => (fs env S).bind fun xs S => .ok (.tup xs) S) := by
  refine (pe_tup h).imp fun σ H Q ⟨g, env, S, sr, p⟩ => ⟨g, env, S, sr, ?_⟩
  dsimp only at p
  cases q : fs env S with
  | ok ds S1 =>
    rw [q] at p
    intro vs H1 g1 b1 f1' n1
    have z : vs.length ≤ sizeLine := by
      rw [n1.length]
      exact Nat.le_trans (hl _ _ _ _ q) (by decide)
    exact ⟨z, fun pa np => PostN.tup (sr.next f1' b1) (PostN.later f1' p) n1 z np⟩
  | exc x S' =>
    rw [q] at p
    exact p
  | err =>
    rw [q] at p
    exact p
theorem e_lst {es : List Expr} {fs : Env → Sto → Res (List D)} (hl : ∀ env S ds S', fs env S = .ok ds S' → ds.length ≤ 1000) (h : PA X es (rEs u fs)) : PE X (.List es pos) (rN u true fun env S => (fs env S).bind fun xs S => .ok (.lst xs) S) := by
  refine (pe_lst h).imp fun σ H Q ⟨g, env, S, sr, p⟩ => ⟨g, env, S, sr, ?_⟩
  dsimp only at p
  cases q : fs env S with
  | ok ds S1 =>
    rw [q] at p
    intro vs H1 g1 b1 f1' n1
    have z : vs.length ≤ sizeLine := by
      rw [n1.length]
      exact Nat.le_trans (hl _ _ _ _ q) (by decide)
    exact ⟨z, fun pa np => PostN.lst (sr.next f1' b1) (PostN.later f1' p) n1 z np⟩
  | exc x S' =>
    rw [q] at p
    exact p
  | err =>
    rw [q] at p
    exact p
/-! ### boxes -/
def Gh.box (g : Gh) (a : Addr) : Gh := { g with A := g.A ++ [[a]] }
theorem Gh.box_le {a : Addr} : GhLe g (g.box a) := ⟨Same.refl _, fun n b h => by
  unfold Gh.at_ at h ⊢
  show ((g.A ++ [[a]])[n]?).bind _ = _
  cases q : g.A[n]? with
  | none =>
    rw [q] at h
    cases h
  | some l =>
    rw [q] at h
    rw [List.getElem?_append_left (List.getElem?_eq_some_iff.mp q).1, q]
    exact h⟩
theorem Gh.box_fp {a b : Addr} : (g.box a).fp b ↔ g.fp b ∨ b = a := by
  unfold Gh.fp
  show (∃ l ∈ g.A ++ [[a]], b ∈ l) ↔ _
  constructor
  · rintro ⟨l, hl, hb⟩
    rcases List.mem_append.mp hl with h | h
    · exact .inl ⟨l, h, hb⟩
    · have e : l = [a] := by simpa using h
      subst e
      exact .inr (by simpa using hb)
  · rintro (⟨l, hl, hb⟩ | rfl)
    · exact ⟨l, List.mem_append_left _ hl, hb⟩
    · exact ⟨[b], List.mem_append_right _ (by simp), by simp⟩
theorem Bs.box {K : PySem.W.Frag} {ca : Nat → Addr} {a : Addr} {vs : List V} {ds : List D} (b : Bs K ca g S H) (n : H a = none) (r : Reps K ca g vs ds) (z : vs.length ≤ sizeLine) : Bs K ca (g.box a) (S ++ [.box (.lst ds)]) (upd H a (.lst vs)) where
  sub := b.sub.trans (same_upd n)
  off := fun c h => by
    rcases Gh.box_fp.mp h with h | rfl
    · exact b.off c h
    · exact Gh.G_none b.sub n
  len := by
    show (g.A ++ [[a]]).length = _
    rw [List.length_append, List.length_append, b.len]
    rfl
  cell := fun k as c h1 h2 => by
    have h1 : (g.A ++ [[a]])[k]? = some as := h1
    by_cases hk : k < g.A.length
    · rw [List.getElem?_append_left hk] at h1
      rw [List.getElem?_append_left (by rw [← b.len]; exact hk)] at h2
      have q := (b.grow (same_upd (x := .lst vs) n)).cell k as c h1 h2
      exact q.mono Gh.box_le fun _ _ => rfl
    · have hk2 : k = g.A.length := by
        have := (List.getElem?_eq_some_iff.mp h1).1
        rw [List.length_append] at this
        simp at this
        omega
      subst hk2
      rw [List.getElem?_append_right (Nat.le_refl _), Nat.sub_self] at h1
      rw [List.getElem?_append_right (by rw [b.len]; exact Nat.le_refl _), b.len, Nat.sub_self] at h2
      cases h1
      cases h2
      exact ⟨a, rfl, vs, upd_same, z, r.mono Gh.box_le⟩
  nd := by
    show (g.A ++ [[a]]).flatten.Nodup
    rw [List.flatten_append]
    refine List.nodup_append.mpr ⟨b.nd, by simp, fun x hx y hy => ?_⟩
    have e : y = a := by simpa using hy
    subst e
    intro z
    subst z
    obtain ⟨l, hl, hx⟩ := List.mem_flatten.mp hx
    obtain ⟨w, e⟩ := Gh.fp_there b ⟨l, hl, hx⟩
    rw [n] at e
    cases e
theorem Fr.box {a : Addr} {x : HO} (n : H a = none) : Fr g H (g.box a) (upd H a x) where
  le := Gh.box_le
  keep := fun c y e _ => same_upd n _ _ e
  dom := (Fr.grow (g := g) (same_upd (x := x) n)).dom
  fpn := fun c h => by
    rcases Gh.box_fp.mp h with h | rfl
    · exact .inl h
    · exact .inr n
  gn := fun _ h => .inl h
theorem e_box {es : List Expr} {fs : Env → Sto → Res (List D)} (hl : ∀ env S ds S', fs env S = .ok ds S' → ds.length ≤ 1000) (h : PA X es (rEs u fs)) : PE X (.List es pos) (rN u fr fun env S => (fs env S).bind fun xs S => .ok (.obj S.length) (S ++ [.box (.lst xs)])) := by
  refine (pe_lst h).imp fun σ H Q ⟨g, env, S, sr, p⟩ => ⟨g, env, S, sr, ?_⟩
  dsimp only at p
  cases q : fs env S with
  | ok ds S1 =>
    rw [q] at p
    intro vs H1 g1 b1 f1' n1
    have z : vs.length ≤ sizeLine := by
      rw [n1.length]
      exact Nat.le_trans (hl _ _ _ _ q) (by decide)
    refine ⟨z, fun pa np => p (.ref pa) _ (g1.box pa) (b1.box np n1 z) (f1'.trans (Fr.box np)) (NewD.imm_rep (.obj ?_) rfl)⟩
    unfold Gh.at_
    show ((g1.A ++ [[pa]])[S1.length]?).bind _ = _
    rw [List.getElem?_append_right (by rw [b1.len]; exact Nat.le_refl _), b1.len, Nat.sub_self]
    rfl
  | exc x S' =>
    rw [q] at p
    exact p
  | err =>
    rw [q] at p
    exact p
/-! ### subscripts -/
theorem Rep.obj_inv {K : PySem.W.Frag} {ca : Nat → Addr} {n : Nat} (h : Rep K ca g v (.obj n)) : ∃ a, v = .ref a ∧ g.at_ n = some a := by
  cases h with
  | obj h => exact ⟨_, rfl, h⟩
theorem plainIx_of {e : Expr} (h : notSlice e = true) : PlainIx e := fun o i => by
  cases e <;> first | rfl | cases h
theorem e_ix (hK : u.K = X.K) (hn : notSlice eb = true) (ha : PE X ea (rP u f1)) (hb : PE X eb (rP u f2)) : PE X (.Subscript ea eb pos) (rN u false fun env S => (f1 env S).bind fun x S => (f2 env S).bind fun y S => match x with
    | .obj n => match S[n]? with
      | some (.box d) => lift (evIx d y) S
      | _ => .err
    | x => lift (evIx x y) S) := by
  refine (pe_ix ix_rule ha hb (plainIx_of hn)).imp fun σ H Q ⟨g, env, S, sr, p⟩ => bindP sr p fun x v S1 g1 H1 s1 _ rx p1 => bindP s1 p1 fun y w S2 g2 H2 s2 fr2 ry p2 => ?_
  have rx := rx.fr fr2
  rw [← hK]
  have key : ∀ {x : D}, RepH u.K u.ca g2 H2 v x → PostN u.K u.ca u.W false g2 H2 σ (lift (evIx x y) S2) Q → rIxA u.K v w H2 Q := fun rx p2 => by
    obtain ⟨d, e, p2⟩ := lift_post p2
    exact ix_post s2.bs rx ry e fun z rz => p2.there s2 rz
  cases x <;> first | exact key rx p2 | skip
  rename_i n _
  dsimp only at p2
  cases q : S2[n]? with
  | none =>
    rw [q] at p2
    exact p2.elim
  | some c =>
    rw [q] at p2
    cases c with
    | ins _ _ => exact p2.elim
    | box d =>
      dsimp only at p2
      obtain ⟨d', e, p3⟩ := lift_post p2
      clear p2
      obtain ⟨a, rfl, h⟩ := (rx.rep rfl).obj_inv
      · skip
        unfold Gh.at_ at h
        cases q2 : g2.A[n]? with
        | none =>
          rw [q2] at h
          cases h
        | some l =>
          rw [q2] at h
          obtain ⟨a', rfl, hh⟩ := s2.bs.cell n l _ q2 q
          have ea' : a' = a := by simpa using h
          subst ea'
          cases d <;> first | exact hh.elim | skip
          · obtain ⟨vs, h1, h2, h3⟩ := hh
            cases y <;> simp only [evIx, reduceCtorEq] at e
            obtain ⟨z, h4, h5⟩ := h3.atI e
            exact .inl ⟨a', vs, _, z, rfl, ry.int_inv, .inl (.inl h1), h4, p3.there s2 h5⟩
          · simp only [evIx, reduceCtorEq] at e
          · simp only [evIx, reduceCtorEq] at e
theorem _root_.L2.PO.imp {X : Cx} {o : Option Expr} {t t' : TO} (h : PO X o t) (i : ∀ σ H Q, t' σ H Q → t σ H Q) : PO X o t' := ⟨fun pins s σ H Q I q => h.run pins s σ H Q I (i σ H Q q)⟩
def PostO (K : PySem.W.Frag) (ca : Nat → Addr) (W : WX) (g : Gh) (H : Hp) (σ : L2.St) (r : Res (Option Int)) (Q : Option Int → Hp → Prop) : Prop := match r with
  | .ok b S' => ∀ H' g', Bs K ca g' S' H' → Fr g H g' H' → Q b H'
  | .exc x S' => Wish K ca W g H σ x S'
  | .err => False
def rO (u : Su) (f : Env → Sto → Res (Option Int)) : TO := fun σ H Q => ∃ g env S, u.SR g env S σ H ∧ PostO u.K u.ca u.W g H σ (f env S) Q
theorem bo_some (h : PE X e (rP u f)) : PO X (some e) (rO u fun env S => (f env S).bind fun l S => lift (slB false l) S) := by
  refine (po_some h).imp fun σ H Q ⟨g, env, S, r, p⟩ => ⟨g, env, S, r, ?_⟩
  dsimp only at p
  cases q : f env S with
  | ok d S' =>
    rw [q] at p
    intro v H' g' b' f' n
    cases d <;> first | exact p.elim | skip
    exact ⟨_, n.int_inv, p H' g' b' f'⟩
  | exc x S' =>
    rw [q] at p
    exact p
  | err =>
    rw [q] at p
    exact p
theorem bo_none : PO X none (rO u fun _ S => (Res.ok D.non S).bind fun l S => lift (slB true l) S) := po_none.imp fun σ H Q ⟨g, env, S, r, p⟩ => p H g r.bs (Fr.refl g H)
theorem bindO {fo : Env → Sto → Res (Option Int)} {k : Option Int → Sto → Res D} {R : Option Int → Hp → Prop} (r : u.SR g env S σ H) (p : PostN u.K u.ca u.W fr g H σ ((fo env S).bind k) Q)
    (h : ∀ x S1 g1 H1, u.SR g1 env S1 σ H1 → Fr g H g1 H1 → PostN u.K u.ca u.W fr g1 H1 σ (k x S1) Q → R x H1) : rO u fo σ H R := by
  refine ⟨g, env, S, r, ?_⟩
  cases q : fo env S with
  | ok x S1 =>
    rw [q] at p
    exact fun H1 g1 b1 f1 => h x S1 g1 H1 (r.next f1 b1) f1 (PostN.later f1 p)
  | exc x S' =>
    rw [q] at p
    exact p
  | err =>
    rw [q] at p
    exact p
theorem e_sl (hK : u.K = X.K) {lo hi : Option Expr} {p2 : Pos} {fl fh : Env → Sto → Res (Option Int)} (ha : PE X ea (rP u f1)) (hl : PO X lo (rO u fl)) (hh : PO X hi (rO u fh)) : PE X (.Subscript ea (.Slice lo hi none p2) pos) (rN u true fun env S => (f1 env S).bind fun x S => (fl env S).bind fun l S => (fh env S).bind fun h S => lift (evSl x l h) S) := by
  refine (pe_slice sl_rule ha hl hh).imp fun σ H Q ⟨g, env, S, sr, p⟩ => bindP sr p fun x v S1 g1 H1 s1 _ rx p1 => bindO s1 p1 fun l S2 g2 H2 s2 fr2 p2 => bindO s2 p2 fun h S3 g3 H3 s3 fr3 p3 => ?_
  rw [← hK]
  exact sl_post s3 ((rx.fr fr2).fr fr3) p3
theorem e_rev (hK : u.K = X.K) {k : Nat} {p1 p2 p3 : Pos} (ha : PE X ea (rP u f1)) : PE X (.Subscript ea (.Slice none none (some (.UnaryOp .USub (.Constant (.int 1) k p1) p2)) p3) pos) (rN u true fun env S => (f1 env S).bind fun x S => lift (evRev x) S) := by
  have two : PE X (.Subscript ea (.Slice none none (some (.UnaryOp .USub (.Constant (.int 1) k p1) p2)) p3) pos) (fun σ H Q => tRevL X.K (rP u f1) σ H Q ∨ tRevT X.K (rP u f1) σ H Q) := by
    refine ⟨fun pins s σ H Q I h => ?_⟩
    rcases h with h | h
    · exact (pe_revL ha).run pins s σ H Q I h
    · exact (pe_revT ha).run pins s σ H Q I h
  refine two.imp fun σ H Q ⟨g, env, S, sr, p⟩ => ?_
  dsimp only at p
  rw [← hK]
  cases q : f1 env S with
  | ok x S1 =>
    cases x with
    | tup ds =>
      refine .inr ⟨g, env, S, sr, ?_⟩
      rw [q] at p ⊢
      intro v H1 g1 b1 f1' n1
      obtain ⟨a, vs, rfl, q1, z1, r1⟩ := n1.tup_inv b1.sub
      exact ⟨a, vs, rfl, q1, fun pa np => PostN.tup (sr.next f1' b1) (PostN.later f1' p) r1.reverse (by rw [List.length_reverse]; exact z1) np⟩
    | lst ds =>
      refine .inl ⟨g, env, S, sr, ?_⟩
      rw [q] at p ⊢
      intro v H1 g1 b1 f1' n1
      obtain ⟨a, vs, rfl, q1, z1, r1⟩ := n1.lst_inv b1.sub
      exact ⟨a, vs, rfl, .inl (.inl q1), fun pa np => PostN.lst (sr.next f1' b1) (PostN.later f1' p) r1.reverse (by rw [List.length_reverse]; exact z1) np⟩
    | _ =>
      rw [q] at p
      exact p.elim
  | exc x S' =>
    refine .inl ⟨g, env, S, sr, ?_⟩
    rw [q] at p ⊢
    exact p
  | err =>
    rw [q] at p
    exact p.elim
/-! ### calls -/
theorem e_call {rc : Nat → List D → Sto → Res D} {n : Str} {k : Nat} {F : Fn} {es : List Expr} {np : Pos} {fs : Env → Sto → Res (List D)} (hK : u.K = X.K) (gd : X.A.guards = some []) (tk : Takes X u.W) (hf : FnR X u.K u.ca rc k n F) (hg : Gl X n) (hp : plainN n = true) (hn : notStar ea = true) (ha : PA X (ea :: es) (rEs u fs))
    (hst : (backTo pos (starEach es X.env)).any (·.1) = false) : PE X (.Call (.Name n np) (ea :: es) [] pos) (rN u F.fresh fun env S => (fs env S).bind fun xs S => rc k xs S) := by
  obtain ⟨p1, p2, _⟩ := plain_of hp
  obtain ⟨kk, fa, fd, ps, F1, hr, hm, hk, hb⟩ := hf.ok
  refine (pe_callG F1 hr gd hg hm hk hb (fun σ => passAt tk σ) ha p1 (star_cons hn es X.env) hst).imp fun σ H Q ⟨g, env, S, sr, p⟩ => bindEs sr p fun xs vs S1 g1 H1 s1 _ rx p1 => ?_
  refine ⟨g1, S1, xs, s1.bs, rx, ?_, ?_⟩
  · rw [rx.length]
    refine hf.len xs S1 fun z => ?_
    rw [z] at p1
    exact p1
  · cases q : rc k xs S1 with
    | ok d S2 =>
      rw [q] at p1
      exact p1
    | exc x S2 =>
      rw [q] at p1
      exact p1
    | err =>
      rw [q] at p1
      exact p1
theorem boot_bi (b : Bi) (hb : biOn b = true) : biName b ∈ biNames ∧ bootBuiltins (biName b) = some (biCal b).val ∧ biName b ≠ "__name__" ∧ (biName b == ("__debug__" : Str)) = false := by
  cases b <;> first | (exact absurd hb (by decide)) | exact ⟨by decide +kernel, by decide +kernel, by decide +kernel, by decide +kernel⟩
theorem e_bi {b : Bi} {es : List Expr} {np : Pos} {fs : Env → Sto → Res (List D)} (gd : X.A.guards = some []) (hK : u.K = X.K) (hc : X.calm = true) (hu : X.A.units + 66 < cLine) (hb : biOn b = true) (hm : ∀ x ∈ biNames, X.mg x = none) (hg : Gl X (biName b)) (hn : notStar ea = true) (ha : PA X (ea :: es) (rPs u fs))
    (hst : (backTo pos (starEach es X.env)).any (·.1) = false) : PE X (.Call (.Name (biName b) np) (ea :: es) [] pos) (rN u true fun env S => (fs env S).bind fun xs S => lift (evBi b xs) S) := by
  obtain ⟨r, hr, ok⟩ := bi_rule hK hc hu gd b hb
  obtain ⟨b1, b2, b3, b4⟩ := boot_bi b hb
  have fin : ∀ σ H Q, rN u true (fun env S => (fs env S).bind fun xs S => lift (evBi b xs) S) σ H Q → tCB r (rPs u fs) σ H Q := fun σ H Q ⟨g, env, S, sr, p⟩ => bindPs sr p fun xs vs S1 g1 H1 s1 _ rx p1 => ok g1 env S1 σ H1 vs xs Q s1 rx p1
  cases q : biCal b with
  | fn id =>
    rw [q] at hr b2
    exact (pe_callB hr hg (hm _ b1) b2 ha b3 b4 (star_cons hn es X.env) hst).imp fin
  | ty id =>
    rw [q] at hr b2
    exact (pe_callTy hr hg (hm _ b1) b2 ha b3 b4 (star_cons hn es X.env) hst).imp fin
theorem boot_ty (t : Ty) : tyName t ∈ biNames ∧ bootBuiltins (tyName t) = some (.type (tyId t)) ∧ tyName t ≠ "__name__" ∧ (tyName t == ("__debug__" : Str)) = false := by
  cases t <;> exact ⟨by decide +kernel, by decide +kernel, by decide +kernel, by decide +kernel⟩
def kdId : Kd → String
  | .non => "NoneType" | .bool => "bool" | .int => "int" | .str => "str" | .list => "list" | .tuple => "tuple" | .dict => "dict"
theorem kit_all (k : Kd) (t : Ty) : kitB (kdId k) (tyId t) = some (kdIs k t) := by
  cases k <;> cases t <;> decide +kernel
theorem rd_list {K : PySem.W.Frag} {a : Addr} {xs : List V} (h : SqL K H a xs) : TyX K H (.ref a) (.type "list") := by
  rcases h with (h | ⟨o, h⟩) | ⟨o, its, n, h1, h2, _⟩
  · exact .base (.lst h)
  · exact .base (.frz h)
  · exact .kList h1 h2
theorem rd_tup {K : PySem.W.Frag} {a : Addr} {xs : List V} (h : SqT K H a xs) : TyX K H (.ref a) (.type "tuple") := by
  rcases h with (h | ⟨o, h⟩) | ⟨o, its, n, h1, h2, _⟩
  · exact .base (.tup h)
  · exact .fTuple h
  · exact .kTuple h1 h2
theorem ty_ok {K : PySem.W.Frag} {ca : Nat → Addr} {k : Kd} (s : Same g.G H) (h : RepH K ca g H v x) (hp : x.kd = some k) : TyX K H v (.type (kdId k)) := by
  cases x <;> cases hp
  · rw [h.non_inv]
    exact .base .non
  · rw [h.bl_inv]
    exact .base (.bl _)
  · rw [h.int_inv]
    exact .base (.int _)
  · rw [h.str_inv.1]
    exact .base (.str _)
  · obtain ⟨a, vs, rfl, q1, _⟩ := h.tup_inv s
    exact rd_tup q1
  · obtain ⟨a, vs, rfl, q1, _⟩ := h.lst_inv s
    exact .base (.lst q1)
  · obtain ⟨a, vs, rfl, q1, _⟩ := (h.rep rfl).fz_inv
    exact rd_list (SqL.mono s q1)
  · rcases h with h | ⟨a, rfl, nf, kvs, h, _⟩
    · cases h with
      | dK h _ _ => exact .base (.dK (s _ _ h))
    · exact .base (.dK h)
  · rcases h with h | ⟨a, rfl, nf, kvs, h, _⟩
    · cases h with
      | dT h _ _ => exact .base (.dT (s _ _ h))
    · exact .base (.dT h)
theorem e_isi {t : Ty} {np tp : Pos} (hK : u.K = X.K) (hm : ∀ x ∈ biNames, X.mg x = none) (hg : Gl X "isinstance") (hg2 : Gl X (tyName t)) (hn : notStar ea = true) (ha : PE X ea (rP u f1)) :
    PE X (.Call (.Name "isinstance" np) [ea, .Name (tyName t) tp] [] pos) (rN u fr fun env S => (f1 env S).bind fun x S => lift ((evIsi x t).map .bl) S) := by
  obtain ⟨b1, b2, b3, b4⟩ := boot_ty t
  have ht : PE X (.Name (tyName t) tp) (tC (.ty (tyId t))) := pe_bltn hg2 (hm _ b1) b2 rfl b3 b4
  have hb : bootBuiltins "isinstance" = some (.builtin "isinstance") := by decide +kernel
  refine (pe_callB call_isi hg (hm _ (by decide +kernel)) hb (pa_cons ha (pa_cons ht pa_nil) (star_cons hn _ _)) (by decide +kernel) (by decide +kernel) (star_cons hn _ _) rfl).imp fun σ H Q ⟨g, env, S, sr, p⟩ => bindP sr p fun x v S1 g1 H1 s1 _ rx p1 => ?_
  cases q : x.kd with
  | none =>
    unfold evIsi at p1
    rw [q] at p1
    exact p1.elim
  | some k =>
    unfold evIsi at p1
    rw [q] at p1
    refine ⟨v, _, _, _, _, rfl, .ty _, ?_, kit_ty (kit_all k t), p1.here s1 (.bl _) rfl⟩
    rw [← hK]
    exact ty_ok s1.bs.sub rx q
theorem attr_base {o : Expr} (h : notCall0 o = true) (n : Str) (env : PySem.Env) (whole : Sem Value) : attributeBase o n env whole = whole := by
  unfold attributeBase
  split
  · cases h
  · rfl
theorem e_me {me : Me} {apos : Pos} (hK : u.K = X.K) (hn : notStar eb = true) (h0 : notCall0 ea = true) (hp : (apos.endLine == pos.line) = true) (ha : PE X ea (rP u f1)) (hb : PE X eb (rP u f2)) :
    PE X (.Call (.Attribute ea (meName me) apos) [eb] [] pos) (rN u true fun env S => (f1 env S).bind fun x S => if x.isStr then ((f2 env S).bind fun y S => (Res.ok [] S).bind fun ys S => .ok (y :: ys) S).bind fun xs S => lift (evMe me x xs) S else .err) := by
  obtain ⟨r, hr, ok⟩ := me_rule hK me
  obtain ⟨sl, ty⟩ := me_slot me
  refine (pe_m1 sl ty hr ha hb (star_cons hn [] _) (attr_base h0 _ _ _) hp).imp fun σ H Q ⟨g, env, S, sr, p⟩ => bindP sr p fun x v S1 g1 H1 s1 _ rx p1 => ?_
  cases x <;> first | exact p1.elim | skip
  rename_i s0
  refine ⟨⟨_, rx.str_inv.1⟩, ?_⟩
  have p1 : PostN u.K u.ca u.W true g1 H1 σ ((f2 env S1).bind fun y S => lift (evMe me (.str s0) [y]) S) Q := by
    cases q : f2 env S1 with
    | ok y S2 =>
      have p1 : PostN u.K u.ca u.W true g1 H1 σ (((f2 env S1).bind fun y S => (Res.ok [] S).bind fun ys S => .ok (y :: ys) S).bind fun xs S => lift (evMe me (.str s0) xs) S) Q := p1
      rw [q] at p1
      exact p1
    | exc x S' =>
      have p1 : PostN u.K u.ca u.W true g1 H1 σ (((f2 env S1).bind fun y S => (Res.ok [] S).bind fun ys S => .ok (y :: ys) S).bind fun xs S => lift (evMe me (.str s0) xs) S) Q := p1
      rw [q] at p1
      exact p1
    | err =>
      have p1 : PostN u.K u.ca u.W true g1 H1 σ (((f2 env S1).bind fun y S => (Res.ok [] S).bind fun ys S => .ok (y :: ys) S).bind fun xs S => lift (evMe me (.str s0) xs) S) Q := p1
      rw [q] at p1
      exact p1
  refine bindP s1 p1 fun y w S2 g2 H2 s2 fr2 ry p2 => ?_
  exact (ok g2 env S2 σ H2 v (.str s0) [w] [y] Q s2 (rx.fr fr2) (.cons ry .nil) p2).2.2
/-! ### tuple(zip(..)) -/
/-- all that is new since H1 is frozen -/
def Gh.all_ (g : Gh) (H1 H' : Hp) : Gh := { g with G := fun a => match H1 a with
  | none => H' a
  | some _ => g.G a }
theorem Gh.all_new {H1 H' : Hp} {a : Addr} (n : H1 a = none) : (g.all_ H1 H').G a = H' a := by
  show (match H1 a with
  | none => H' a
  | some _ => g.G a) = _
  rw [n]
theorem Gh.all_old {H1 H' : Hp} {a : Addr} {o : HO} (n : H1 a = some o) : (g.all_ H1 H').G a = g.G a := by
  show (match H1 a with
  | none => H' a
  | some _ => g.G a) = _
  rw [n]
theorem Gh.all_le {H1 H' : Hp} (s : Same g.G H1) : GhLe g (g.all_ H1 H') := ⟨fun a x e => by
  rw [Gh.all_old (s _ _ e)]
  exact e, fun _ _ h => h⟩
theorem Bs.all_ {K : PySem.W.Frag} {ca : Nat → Addr} {H1 H' : Hp} (b : Bs K ca g S H1) (s : Same H1 H') : Bs K ca (g.all_ H1 H') S H' where
  sub := fun a x e => by
    cases q : H1 a with
    | none =>
      rw [Gh.all_new q] at e
      exact e
    | some o =>
      rw [Gh.all_old q] at e
      exact s _ _ (b.sub _ _ e)
  off := fun a h => by
    obtain ⟨x, e⟩ := Gh.fp_there b h
    rw [Gh.all_old e]
    exact b.off a h
  len := b.len
  cell := fun k as c h1 h2 => ((b.grow s).cell k as c h1 h2).mono (Gh.all_le b.sub) fun _ _ => rfl
  nd := b.nd
theorem Fr.all_ {H1 H' : Hp} (sb : Same g.G H1) (s : Same H1 H') : Fr g H1 (g.all_ H1 H') H' where
  le := Gh.all_le sb
  keep := fun a x e _ => s _ _ e
  dom := (Fr.grow (g := g) s).dom
  fpn := fun _ h => .inl h
  gn := fun a h => by
    cases q : H1 a with
    | none => exact .inr rfl
    | some o =>
      rw [Gh.all_old q] at h
      exact .inl h
theorem e_tzip {np np2 pos2 : Pos} (hK : u.K = X.K) (hc : X.calm = true) (hm : ∀ x ∈ biNames, X.mg x = none) (hg : Gl X "tuple") (hg2 : Gl X "zip") (n1 : notStar ea = true) (n2 : notStar eb = true) (ha : PE X ea (rP u f1)) (hb : PE X eb (rP u f2)) :
    PE X (.Call (.Name "tuple" np) [.Call (.Name "zip" np2) [ea, eb] [] pos2] [] pos) (rN u true fun env S => (f1 env S).bind fun x S => (f2 env S).bind fun y S => lift ((evZip x y).map .tup) S) := by
  refine (pe_tupZip hc hg (hm _ (by decide +kernel)) hg2 (hm _ (by decide +kernel)) (pa_cons ha (pa_cons hb pa_nil (star_cons n2 _ _)) (star_cons n1 _ _)) n1 n2).imp fun σ H Q ⟨g, env, S, sr, p⟩ => bindP sr p fun x v S1 g1 H1 s1 _ rx p1 => bindP s1 p1 fun y w S2 g2 H2 s2 fr2 ry p2 => ?_
  have rx := rx.fr fr2
  rw [← hK]
  obtain ⟨xs, ys, rfl, rfl⟩ : ∃ xs ys, x = .lst xs ∧ y = .lst ys := by
    cases x <;> cases y <;> first | exact p2.elim | exact ⟨_, _, rfl, rfl⟩
  obtain ⟨a, vs, rfl, q1, z1, r1⟩ := rx.lst_inv s2.bs.sub
  obtain ⟨b, ws, rfl, q2, z2, r2⟩ := ry.lst_inv s2.bs.sub
  refine ⟨a, b, vs, ws, rfl, .inl (.inl q1), .inl (.inl q2), by omega, fun H' Ts sm et pr pa np => ?_⟩
  have b3 := s2.bs.all_ sm
  have f3 := Fr.all_ s2.bs.sub sm
  have p3 : PostN u.K u.ca u.W true g2 H2 σ (.ok (.tup ((xs.zip ys).map fun q => .tup [q.1, q.2])) S2) Q := p2
  refine PostN.tup (s2.next f3 b3) (PostN.later f3 p3) ?_ (by rw [List.length_map, et]; omega) np
  have key : ∀ (Ts : List Addr) (vs ws : List V) (xs ys : List D), Reps u.K u.ca g2 vs xs → Reps u.K u.ca g2 ws ys → Ts.length = min vs.length ws.length → Pairs H2 H' vs ws Ts → Reps u.K u.ca (g2.all_ H2 H') (Ts.map V.ref) ((xs.zip ys).map fun q => D.tup [q.1, q.2]) := by
    intro Ts
    induction Ts with
    | nil =>
      intro vs ws xs ys r1 r2 et pr
      cases r1 with
      | nil => exact .nil
      | cons _ _ =>
        cases r2 with
        | nil => exact .nil
        | cons _ _ =>
          simp only [List.length_nil, List.length_cons] at et
          omega
    | cons T Ts ih =>
      intro vs ws xs ys r1 r2 et pr
      cases r1 with
      | nil => simp at et
      | cons a1 t1 =>
        cases r2 with
        | nil => simp at et
        | cons a2 t2 =>
          obtain ⟨n, x, y, e1, e2, e3⟩ := pr 0 T rfl
          cases e1
          cases e2
          have l := Gh.all_le (H' := H') s2.bs.sub
          refine .cons (.tup (.inl (.inl ?_)) (by show 2 ≤ sizeLine; decide) (.cons (a1.mono l) (.cons (a2.mono l) .nil))) (ih _ _ _ _ t1 t2 ?_ fun j T' e => ?_)
          · rw [Gh.all_new n]
            exact e3
          · simp only [List.length_cons] at et
            omega
          · exact pr (j + 1) T' e
  exact key Ts vs ws xs ys r1 r2 et pr
end
end VE

set_option Elab.async false
set_option linter.all false
set_option maxRecDepth 100000
set_option maxHeartbeats 4000000
/-! VE, part S: sorted(set(xs)) of pairs. -/
namespace VE
open PySem PySem.Spec PyProof.Rows L2 VS

theorem nodup_dups {α : Type} [BEq α] [LawfulBEq α] : ∀ (n : Nat) (l : List α), l.length ≤ n → l.eraseDups.Nodup ∧ ∀ x, x ∈ l.eraseDups ↔ x ∈ l
  | _, [], _ => by
    rw [List.eraseDups_nil]
    exact ⟨List.nodup_nil, fun x => Iff.rfl⟩
  | 0, _ :: _, h => absurd h (Nat.not_succ_le_zero _)
  | n + 1, a :: l, h => by
    rw [List.eraseDups_cons]
    have lf : (l.filter fun b => !b == a).length ≤ n := Nat.le_trans (List.length_filter_le _ _) (Nat.le_of_succ_le_succ h)
    obtain ⟨h1, h2⟩ := nodup_dups n _ lf
    refine ⟨List.nodup_cons.mpr ⟨fun z => ?_, h1⟩, fun x => ?_⟩
    · have := (h2 a).mp z
      simp at this
    · rw [List.mem_cons, List.mem_cons, h2 x, List.mem_filter]
      by_cases e : x = a
      · simp [e]
      · simp [e]
section
variable {X : Cx} {u : Su} {f1 : Env → Sto → Res D} {ea : Expr} {pos : Pos}
theorem e_sset {b : Bool} {np np2 pos2 : Pos} (hK : u.K = X.K) (hc : X.calm = true) (hu : X.A.units + 66 < cLine) (hm : ∀ x ∈ biNames, X.mg x = none) (hg : Gl X "sorted") (hg2 : Gl X "set") (hn : notStar ea = true) (ha : PE X ea (rP u f1)) :
    PE X (.Call (.Name "sorted" np) [.Call (.Name "set" np2) [ea] [] pos2] [] pos) (rN u true fun env S => (f1 env S).bind fun x S => lift (evSset b x) S) := by
  have b1 : bootBuiltins (Str.ofString "sorted") = some (.builtin "sorted") := by decide +kernel
  have b2 : bootBuiltins (Str.ofString "set") = some (.type "set") := by decide +kernel
  have inner := pe_callTy (p := np2) (pos := pos2) (cr_setX b hc hu) hg2 (hm _ (by decide +kernel)) b2 (pa_cons ha pa_nil (star_cons hn _ _)) (by decide +kernel) (by decide +kernel) (star_cons hn _ _)
  refine (pe_callB (p := np) (pos := pos) (cr_sortX b hc hu) hg (hm _ (by decide +kernel)) b1 (pa_cons inner pa_nil rfl) (by decide +kernel) (by decide +kernel) rfl rfl).imp fun σ H Q ⟨g, env, S, sr, p⟩ => bindP sr p fun x v S1 g1 H1 s1 _ rx p1 => ?_
  obtain ⟨xs, rfl⟩ : ∃ xs, x = .lst xs := by
    cases x <;> first | exact p1.elim | exact ⟨_, rfl⟩
  have pq : PostN u.K u.ca u.W true g1 H1 σ (lift (match unPks b xs with
    | some qs => if qs.length < 64 then some (.lst ((sortU qs).map Pk.d)) else none
    | none => none) S1) Q := p1
  cases e : unPks b xs with
  | none =>
    rw [e] at pq
    exact pq.elim
  | some qs =>
    rw [e] at pq
    dsimp only at pq
    by_cases few : qs.length < 64
    · rw [if_pos few] at pq
      have ex := unPks_map e
      subst ex
      obtain ⟨l, vs, rfl, hl, z, r⟩ := rx.lst_inv s1.bs.sub
      obtain ⟨ks, ev, eq_, hk⟩ : ∃ ks : List (Addr × Pk b), vs = ks.map (fun p => V.ref p.1) ∧ ks.map (·.2) = qs ∧ ∀ p ∈ ks, Rep u.K u.ca g1 (.ref p.1) p.2.d ∧ SqT u.K g1.G p.1 [.int p.2.1.1, p.2.1.2.v] := by
        have key : ∀ {qs : List (Pk b)} {vs : List V}, Reps u.K u.ca g1 vs (qs.map Pk.d) → ∃ ks : List (Addr × Pk b), vs = ks.map (fun p => V.ref p.1) ∧ ks.map (·.2) = qs ∧ ∀ p ∈ ks, Rep u.K u.ca g1 (.ref p.1) p.2.d ∧ SqT u.K g1.G p.1 [.int p.2.1.1, p.2.1.2.v] := by
          intro qs
          induction qs with
          | nil =>
            intro vs r
            cases r
            exact ⟨[], rfl, rfl, fun _ z => nomatch z⟩
          | cons q qs ih =>
            intro vs r
            cases r with
            | cons a t =>
              obtain ⟨ks, h1, h2, h3⟩ := ih t
              obtain ⟨ad, rfl, sq⟩ := rep_pk a
              refine ⟨(ad, q) :: ks, by rw [List.map_cons, h1], by rw [List.map_cons, h2], fun p hp => ?_⟩
              rcases List.mem_cons.mp hp with z | z
              · rw [z]
                exact ⟨a, sq⟩
              · exact h3 p z
        exact key r
      subst ev eq_
      rw [List.length_map] at few
      refine ⟨l, ks, rfl, hl, fun p hp => ?_, few, fun a N hn0 sub all nd => ?_⟩
      · rw [← hK]
        exact SqT.mono s1.bs.sub (hk p hp).2
      · have sr2 := s1.grow (same_upd (x := SxO X.prog X.w a (N.map fun p => (p.1, p.2.key))) hn0)
        refine ⟨a, N, rfl, upd_same, fun p hp => ?_, fun L p sL mL np => ?_⟩
        · rw [← hK]
          exact SqT.mono (s1.bs.sub.trans (same_upd hn0)) (hk p (sub p hp)).2
        · have f2 := Fr.grow (g := g1) (same_upd (x := SxO X.prog X.w a (N.map fun p => (p.1, p.2.key))) hn0)
          have perm : (N.map (·.2)).Perm (ks.map (·.2)).eraseDups := by
            obtain ⟨d1, d2⟩ := nodup_dups _ (ks.map (·.2)) (Nat.le_refl _)
            refine (List.perm_ext_iff_of_nodup nd d1).mpr fun q => ?_
            rw [d2]
            constructor
            · intro h
              obtain ⟨x, hx, e⟩ := List.mem_map.mp h
              exact List.mem_map.mpr ⟨x, sub x hx, e⟩
            · intro h
              obtain ⟨x, hx, e⟩ := List.mem_map.mp h
              rw [← e]
              exact all x hx
          have eL : (L.map (·.2)).map Pk.d = (sortU (ks.map (·.2))).map Pk.d := by
            rw [mL, sort_perm perm]
            rfl
          have rL : Reps u.K u.ca g1 (L.map fun x => V.ref x.1) ((sortU (ks.map (·.2))).map Pk.d) := by
            rw [← eL]
            have key : ∀ L : List (Addr × Pk b), (∀ x ∈ L, x ∈ N) → Reps u.K u.ca g1 (L.map fun x => V.ref x.1) ((L.map (·.2)).map Pk.d) := fun L => by
              induction L with
              | nil => exact fun _ => .nil
              | cons x L ih => exact fun h => .cons (hk x (sub x (h x List.mem_cons_self))).1 (ih fun y hy => h y (List.mem_cons_of_mem _ hy))
            exact key L sL
          have p2 : PostN u.K u.ca u.W true g1 H1 σ (.ok (.lst ((sortU (ks.map (·.2))).map Pk.d)) S1) Q := pq
          refine PostN.lst sr2 (PostN.later f2 p2) rL ?_ np
          have lL : L.length ≤ ks.length := by
            have e1 := congrArg List.length mL
            rw [List.length_map, List.length_mergeSort, List.length_map] at e1
            have e2 := nd.length_le_of_subset (l₂ := ks.map (·.2)) fun q hq => by
              obtain ⟨x, hx, e⟩ := List.mem_map.mp hq
              exact List.mem_map.mpr ⟨x, sub x hx, e⟩
            rw [List.length_map, List.length_map] at e2
            omega
          rw [List.length_map, sizeLine_eq]
          omega
    · rw [if_neg few] at pq
      exact pq.elim
end
end VE

set_option Elab.async false
set_option linter.all false
set_option maxRecDepth 100000
set_option maxHeartbeats 4000000
/-! VE, part 9: what is walked; comprehensions. -/
namespace VE
open PySem PySem.Spec PyProof.Rows L2

section
variable (K : PySem.W.Frag) (ca : Nat → Addr)
/-- the iterator J walks the data ds, from the ghost g on -/
structure WalkD (g : Gh) (J : It) (ds : List D) : Prop where
  len : ds.length ≤ sizeLine
  ex : ∃ G Y, Walk J ds.length G Y ∧ (∀ g2 S2 H2, GhLe g g2 → Bs K ca g2 S2 H2 → G H2) ∧
    ∀ i d g2 S2 H2 x H3, ds[i]? = some d → GhLe g g2 → Bs K ca g2 S2 H2 → Y i H2 x H3 → ∃ g3, Fr g2 H2 g3 H3 ∧ Bs K ca g3 S2 H3 ∧ Rep K ca g3 x d
def PostI (W : WX) (g : Gh) (H : Hp) (σ : L2.St) (r : Res (List D)) (R : It → Hp → Prop) : Prop := match r with
  | .ok ds S' => ∀ J H' g', Bs K ca g' S' H' → Fr g H g' H' → WalkD K ca g' J ds → R J H'
  | .exc x S' => Wish K ca W g H σ x S'
  | .err => False
end
def rI (u : Su) (f : Env → Sto → Res (List D)) : TI := fun σ H R => ∃ g env S, u.SR g env S σ H ∧ PostI u.K u.ca u.W g H σ (f env S) R

section
variable {X : Cx} {u : Su} {g : Gh} {env : Env} {S : Sto} {σ : L2.St} {H : Hp} {v w : V} {x y d : D} {Q : VK} {fr : Bool} {f f1 f2 f3 : Env → Sto → Res D} {e ea eb ec tg : Expr} {pos : Pos} {m : Md} {K : PySem.W.Frag} {ca : Nat → Addr}
theorem _root_.L2.Walk.len_ {J : It} {n m : Nat} {G : Hp → Prop} {Y : Nat → Hp → V → Hp → Prop} (w : Walk J n G Y) (e : m = n) : Walk J m G Y := e ▸ w
theorem wd_list {a : Addr} {vs : List V} {ds : List D} (h : SqL K g.G a vs) (z : vs.length ≤ sizeLine) (r : Reps K ca g vs ds) : WalkD K ca g (Itl K a) ds where
  len := by rw [← r.length]; exact z
  ex := by
    have w := walk_list (K := K) (a := a) (xs := vs)
    rw [r.length] at w
    exact ⟨_, _, w, fun g2 S2 H2 l b => SqL.mono b.sub (SqL.mono l.ext h), fun i d g2 S2 H2 x H3 e l b ⟨q1, q2⟩ => by
    subst q1
    obtain ⟨v, e1, r1⟩ := r.get e
    rw [q2] at e1
    cases e1
    exact ⟨g2, Fr.refl _ _, b, r1.mono l⟩⟩
theorem wd_tup {a : Addr} {vs : List V} {ds : List D} (h : SqT K g.G a vs) (z : vs.length ≤ sizeLine) (r : Reps K ca g vs ds) : WalkD K ca g (Itt K a) ds where
  len := by rw [← r.length]; exact z
  ex := by
    have w := walk_tup (K := K) (a := a) (xs := vs)
    rw [r.length] at w
    exact ⟨_, _, w, fun g2 S2 H2 l b => SqT.mono b.sub (SqT.mono l.ext h), fun i d g2 S2 H2 x H3 e l b ⟨q1, q2⟩ => by
    subst q1
    obtain ⟨v, e1, r1⟩ := r.get e
    rw [q2] at e1
    cases e1
    exact ⟨g2, Fr.refl _ _, b, r1.mono l⟩⟩
theorem wd_str {z : Str} (h : strOk z) : WalkD K ca g (Its z) (z.cps.toList.map fun c => .str ⟨#[c]⟩) where
  len := by
    rw [List.length_map]
    exact h.1
  ex := by
    have w := walk_str (z := z)
    have e0 : (z.cps.toList.map fun c => D.str ⟨#[c]⟩).length = z.cps.size := by rw [List.length_map]; rfl
    rw [← e0] at w
    exact ⟨_, _, w, fun g2 S2 H2 l b => trivial, fun i d g2 S2 H2 x H3 e l b ⟨q1, c, q2, q3⟩ => by
    subst q1
    subst q3
    rw [List.getElem?_map, ← Array.getElem?_toList] at *
    rw [Array.getElem?_toList] at *
    have q4 : z.cps.toList[i]? = some c := by rw [Array.getElem?_toList]; exact q2
    rw [q2] at e
    cases e
    exact ⟨g2, Fr.refl _ _, b, .str _ (strOk_one h (List.mem_of_getElem? q4))⟩⟩
theorem wd_range {lo : Int} {n : Nat} (h : n ≤ sizeLine) : WalkD K ca g (Itr lo n) ((List.range n).map fun k => .int (lo + (k : Nat))) where
  len := by
    rw [List.length_map, List.length_range]
    exact h
  ex := by
    have w := walk_range (lo := lo) (n := n)
    have e0 : ((List.range n).map fun k => D.int (lo + (k : Nat))).length = n := by rw [List.length_map, List.length_range]
    exact ⟨_, _, w.len_ e0, fun g2 S2 H2 l b => trivial, fun i d g2 S2 H2 x H3 e l b ⟨q1, q2⟩ => by
    subst q1
    subst q2
    rw [List.getElem?_map] at e
    cases q : (List.range n)[i]? with
    | none =>
      rw [q] at e
      cases e
    | some k =>
      rw [q] at e
      cases e
      have : k = i := by
        have lt := (List.getElem?_eq_some_iff.mp q).1
        rw [List.length_range] at lt
        rw [List.getElem?_range lt] at q
        cases q
        rfl
      subst this
      exact ⟨g2, Fr.refl _ _, b, .int _⟩⟩
theorem pair_step {T : Addr} {x y : V} {d d' : D} {g2 : Gh} {S2 : Sto} {H2 : Hp} (b : Bs K ca g2 S2 H2) (n : H2 T = none) (r1 : Rep K ca g2 x d) (r2 : Rep K ca g2 y d') :
    ∃ g3, Fr g2 H2 g3 (upd H2 T (.tup [x, y])) ∧ Bs K ca g3 S2 (upd H2 T (.tup [x, y])) ∧ Rep K ca g3 (.ref T) (.tup [d, d']) :=
  ⟨g2.put T (.tup [x, y]), Fr.put b.sub n, b.put n, .tup (.inl (.inl upd_same)) (by show 2 ≤ sizeLine; decide) (Reps.put (Gh.G_none b.sub n) (.cons r1 (.cons r2 .nil)))⟩
theorem wd_zip {a b : Addr} {vs ws : List V} {ds es : List D} (h : SqL K g.G a vs) (z : vs.length ≤ sizeLine) (r : Reps K ca g vs ds) (h' : SqL K g.G b ws) (z' : ws.length ≤ sizeLine) (r' : Reps K ca g ws es) : WalkD K ca g (Itz K a b) ((ds.zip es).map fun p => .tup [p.1, p.2]) where
  len := by
    rw [List.length_map, List.length_zip, ← r.length]
    omega
  ex := by
    have w := walk_zip (K := K) (a := a) (b := b) (xs := vs) (ys := ws) rfl
    have e0 : ((ds.zip es).map fun p => D.tup [p.1, p.2]).length = min vs.length ws.length := by rw [List.length_map, List.length_zip, r.length, r'.length]
    exact ⟨_, _, w.len_ e0, fun g2 S2 H2 l b => ⟨SqL.mono b.sub (SqL.mono l.ext h), SqL.mono b.sub (SqL.mono l.ext h')⟩, fun i d g2 S2 H2 x H3 e l bs ⟨T, x1, y1, q1, q2, q3, q4, q5⟩ => by
    subst q1
    subst q3
    rw [List.getElem?_map] at e
    cases q : (ds.zip es)[i]? with
    | none =>
      rw [q] at e
      cases e
    | some p =>
      rw [q] at e
      cases e
      obtain ⟨e1, e2⟩ := List.getElem?_zip_eq_some.mp q
      obtain ⟨v1, k1, r1⟩ := r.get e1
      obtain ⟨v2, k2, r2⟩ := r'.get e2
      have k1 := q4.symm.trans k1
      have k2 := q5.symm.trans k2
      cases k1
      cases k2
      exact pair_step bs q2 (r1.mono l) (r2.mono l)⟩
theorem walk_zipT {K : PySem.W.Frag} {a b : Addr} {xs ys : List V} {n : Nat} (e : n = min xs.length ys.length) : Walk (RZ.ItzT K a b) n (fun H => SqT K H a xs ∧ SqT K H b ys) (YPair (fun i => xs[i]?) (fun i => ys[i]?)) := by
  subst e
  refine ⟨fun i _ lt q => ?_, fun _ q => ⟨xs, ys, q.1, q.2, by omega⟩, fun i H v H' _ q ⟨T, x, y, e1, e2, e3, e4, e5⟩ => ⟨T, x, y, e1, e2, e3, e4 xs q.1, e5 ys q.2⟩⟩
  have l1 : i < xs.length := by omega
  have l2 : i < ys.length := by omega
  exact ⟨xs, ys, xs[i], ys[i], q.1, q.2, List.getElem?_eq_getElem l1, List.getElem?_eq_getElem l2⟩
theorem wd_zipT {a b : Addr} {vs ws : List V} {ds es : List D} (h : SqT K g.G a vs) (z : vs.length ≤ sizeLine) (r : Reps K ca g vs ds) (h' : SqT K g.G b ws) (z' : ws.length ≤ sizeLine) (r' : Reps K ca g ws es) : WalkD K ca g (RZ.ItzT K a b) ((ds.zip es).map fun p => .tup [p.1, p.2]) where
  len := by
    rw [List.length_map, List.length_zip, ← r.length]
    omega
  ex := by
    have w := walk_zipT (K := K) (a := a) (b := b) (xs := vs) (ys := ws) rfl
    have e0 : ((ds.zip es).map fun p => D.tup [p.1, p.2]).length = min vs.length ws.length := by rw [List.length_map, List.length_zip, r.length, r'.length]
    exact ⟨_, _, w.len_ e0, fun g2 S2 H2 l b => ⟨SqT.mono b.sub (SqT.mono l.ext h), SqT.mono b.sub (SqT.mono l.ext h')⟩, fun i d g2 S2 H2 x H3 e l bs ⟨T, x1, y1, q1, q2, q3, q4, q5⟩ => by
    subst q1
    subst q3
    rw [List.getElem?_map] at e
    cases q : (ds.zip es)[i]? with
    | none =>
      rw [q] at e
      cases e
    | some p =>
      rw [q] at e
      cases e
      obtain ⟨e1, e2⟩ := List.getElem?_zip_eq_some.mp q
      obtain ⟨v1, k1, r1⟩ := r.get e1
      obtain ⟨v2, k2, r2⟩ := r'.get e2
      have k1 := q4.symm.trans k1
      have k2 := q5.symm.trans k2
      cases k1
      cases k2
      exact pair_step bs q2 (r1.mono l) (r2.mono l)⟩
theorem wd_enum {a : Addr} {vs : List V} {ds : List D} (h : SqL K g.G a vs) (z : vs.length ≤ sizeLine) (r : Reps K ca g vs ds) : WalkD K ca g (Ite K a) (ds.zipIdx.map fun p => .tup [.int (p.2 : Nat), p.1]) where
  len := by
    rw [List.length_map, List.length_zipIdx, ← r.length]
    exact z
  ex := by
    have w := walk_enum (K := K) (a := a) (xs := vs)
    have e0 : (ds.zipIdx.map fun p => D.tup [.int (p.2 : Nat), p.1]).length = vs.length := by rw [List.length_map, List.length_zipIdx, r.length]
    exact ⟨_, _, w.len_ e0, fun g2 S2 H2 l b => SqL.mono b.sub (SqL.mono l.ext h), fun i d g2 S2 H2 x H3 e l bs ⟨T, x1, y1, q1, q2, q3, q4, q5⟩ => by
    subst q1
    subst q3
    rw [List.getElem?_map] at e
    cases q : ds.zipIdx[i]? with
    | none =>
      rw [q] at e
      cases e
    | some p =>
      rw [q] at e
      cases e
      rw [List.getElem?_zipIdx] at q
      cases q6 : ds[i]? with
      | none =>
        rw [q6] at q
        cases q
      | some d1 =>
        rw [q6] at q
        cases q
        obtain ⟨v2, k2, r2⟩ := r.get q6
        have k2 := q5.symm.trans k2
        cases k2
        cases q4
        have e0 : ((0 + i : Nat) : Int) = (i : Int) := by omega
        show ∃ g3, _ ∧ _ ∧ Rep K ca g3 _ (.tup [.int ((0 + i : Nat) : Int), d1])
        rw [e0]
        exact pair_step bs q2 (.int _) (r2.mono l)⟩
/-! ### iterables -/
theorem i_plain (hK : u.K = X.K) (he : PE X e (rE u f)) : PI X tg e (rI u fun env S => (f env S).bind fun x S => lift (items x) S) := by
  refine ⟨fun pins s σ H R I ⟨g, env, S, sr, p⟩ => ?_⟩
  dsimp only at p
  cases q : f env S with
  | ok d S' =>
    rw [q] at p
    cases d <;> first | exact p.elim | skip
    · refine (pi_str he).run pins s σ H R I ⟨g, env, S, sr, ?_⟩
      rw [q]
      intro v H' g' b f' n
      obtain ⟨e1, k1⟩ := RepH.str_inv (H := H') (.inl n)
      exact ⟨_, e1, p _ H' g' b f' (wd_str k1)⟩
    · refine (pi_tup he).run pins s σ H R I ⟨g, env, S, sr, ?_⟩
      rw [q]
      intro v H' g' b f' n
      obtain ⟨a, vs, rfl, q1, z1, r1⟩ := Rep.tup_inv n
      rw [← hK]
      exact ⟨_, rfl, ⟨vs, SqT.mono b.sub q1⟩, p _ H' g' b f' (wd_tup q1 z1 r1)⟩
    · refine (pi_list he).run pins s σ H R I ⟨g, env, S, sr, ?_⟩
      rw [q]
      intro v H' g' b f' n
      obtain ⟨a, vs, rfl, q1, z1, r1⟩ := Rep.lst_inv n
      rw [← hK]
      exact ⟨_, rfl, ⟨vs, .inl (.inl (b.sub _ _ q1))⟩, p _ H' g' b f' (wd_list (.inl (.inl q1)) z1 r1)⟩
    · refine (pi_list he).run pins s σ H R I ⟨g, env, S, sr, ?_⟩
      rw [q]
      intro v H' g' b f' n
      obtain ⟨a, vs, rfl, q1, z1, r1⟩ := Rep.fz_inv n
      rw [← hK]
      exact ⟨_, rfl, ⟨vs, SqL.mono b.sub q1⟩, p _ H' g' b f' (wd_list q1 z1 r1)⟩
  | exc x S' =>
    rw [q] at p
    refine (pi_list he).run pins s σ H R I ⟨g, env, S, sr, ?_⟩
    rw [q]
    exact p
  | err =>
    rw [q] at p
    exact p.elim
theorem evRng_inv {as : List D} {ds : List D} (h : evRng as = some ds) : (∃ j, as = [.int j] ∧ -(2 ^ 62) ≤ j ∧ j ≤ 16777216 ∧ ds = (List.range j.toNat).map fun k => .int (k : Nat)) ∨
    ∃ i j, as = [.int i, .int j] ∧ (-(2 ^ 62) ≤ i ∧ i < 2 ^ 62 ∧ -(2 ^ 62) ≤ j ∧ j < 2 ^ 62) ∧ j - i ≤ 16777216 ∧ ds = (List.range (j - i).toNat).map fun k => .int (i + (k : Nat)) := by
  unfold evRng at h
  split at h
  · split at h
    · cases h
      rename_i hh
      exact .inl ⟨_, rfl, hh.1, hh.2, rfl⟩
    · cases h
  · split at h
    · cases h
      rename_i hh
      exact .inr ⟨_, _, rfl, hh.1, hh.2, rfl⟩
    · cases h
  · cases h
theorem i_rng1 {np : Pos} (hm : ∀ x ∈ biNames, X.mg x = none) (hg : Gl X "range") (hn : notStar ea = true) (ha : PA X [ea] (rPs u fun env S => (f1 env S).bind fun x S => (Res.ok [] S).bind fun xs S => .ok (x :: xs) S)) :
    PI X tg (.Call (.Name "range" np) [ea] [] pos) (rI u fun env S => (((f1 env S).bind fun x S => (Res.ok [] S).bind fun xs S => .ok (x :: xs) S).bind fun xs S => lift ((evRng xs).map .lst) S).bind fun x S => lift (items x) S) := by
  refine (pi_range1 hg (hm _ (by decide +kernel)) ha (star_cons hn _ _)).imp fun σ H R ⟨g, env, S, sr, p⟩ => ⟨g, env, S, sr, ?_⟩
  dsimp only at p ⊢
  cases q : f1 env S with
  | ok x S' =>
    rw [q] at p
    intro vs H' g' b f' n
    obtain ⟨v, rfl, n1⟩ := n.inv1
    simp only [Res.ok_bind] at p
    cases q2 : evRng [x] with
    | none =>
      rw [q2] at p
      exact p.elim
    | some ds =>
      rw [q2] at p
      rcases evRng_inv q2 with ⟨j, e1, h1, h2, rfl⟩ | ⟨i, j, e1, _⟩
      · cases e1
        refine ⟨j, by rw [n1.int_inv], h1, by omega, p _ H' g' b f' ?_⟩
        have w := wd_range (K := u.K) (ca := u.ca) (g := g') (lo := 0) (n := j.toNat) (by rw [sizeLine_eq]; omega)
        have e0 : ((List.range j.toNat).map fun k => D.int (0 + (k : Nat))) = (List.range j.toNat).map fun k => D.int (k : Nat) := List.map_congr_left fun k _ => by rw [Int.zero_add]
        rw [e0] at w
        exact w
      · cases e1
  | exc x S' =>
    rw [q] at p
    exact p
  | err =>
    rw [q] at p
    exact p
theorem two_of {r : Res D} {r2 : Sto → Res D} {xs : List D} {S' : Sto} (h : (r.bind fun x S => ((r2 S).bind fun y S => (Res.ok [] S).bind fun ys S => .ok (y :: ys) S).bind fun xs S => .ok (x :: xs) S) = .ok xs S') : ∃ x y, xs = [x, y] := by
  cases r with
  | ok x S =>
    simp only [Res.ok_bind] at h
    cases q : r2 S with
    | ok y S1 =>
      rw [q] at h
      cases h
      exact ⟨x, y, rfl⟩
    | exc x S' =>
      rw [q] at h
      cases h
    | err =>
      rw [q] at h
      cases h
  | exc x S' => cases h
  | err => cases h
theorem i_rng2 {np : Pos} {fs : Env → Sto → Res (List D)} (hm : ∀ x ∈ biNames, X.mg x = none) (hg : Gl X "range") (hn : notStar ea = true) (hn2 : notStar eb = true) (ha : PA X [ea, eb] (rPs u fs))
    (h2 : ∀ env S xs S', fs env S = .ok xs S' → ∃ x y, xs = [x, y]) :
    PI X tg (.Call (.Name "range" np) [ea, eb] [] pos) (rI u fun env S => ((fs env S).bind fun xs S => lift ((evRng xs).map .lst) S).bind fun x S => lift (items x) S) := by
  refine (pi_range2 hg (hm _ (by decide +kernel)) ha (by rw [star_cons hn, star_cons hn2]; rfl) (star_cons hn2 _ _)).imp fun σ H R ⟨g, env, S, sr, p⟩ => ⟨g, env, S, sr, ?_⟩
  dsimp only at p ⊢
  cases q : fs env S with
  | ok xs S' =>
    rw [q] at p
    intro vs H' g' b f' n
    simp only [Res.ok_bind] at p
    cases q2 : evRng xs with
    | none =>
      rw [q2] at p
      exact p.elim
    | some ds =>
      rw [q2] at p
      rcases evRng_inv q2 with ⟨j, rfl, h1, _, rfl⟩ | ⟨i, j, rfl, h1, h3, rfl⟩
      · obtain ⟨x, y, z⟩ := h2 _ _ _ _ q
        cases z
      · obtain ⟨v, v', rfl, n1, n2⟩ := n.inv2
        refine ⟨i, j, by rw [n1.int_inv, n2.int_inv], h1, p _ H' g' b f' ?_⟩
        exact wd_range (by rw [sizeLine_eq]; omega)
  | exc x S' =>
    rw [q] at p
    exact p
  | err =>
    rw [q] at p
    exact p
theorem Reps.inv2 {ds : List D} {vs : List V} {x y : D} (h : Reps K ca g vs [x, y]) : ∃ v w, vs = [v, w] ∧ Rep K ca g v x ∧ Rep K ca g w y := by
  cases h with
  | cons a t =>
    cases t with
    | cons b t =>
      cases t
      exact ⟨_, _, rfl, a, b⟩
theorem i_zip {np : Pos} (hK : u.K = X.K) (hm : ∀ x ∈ biNames, X.mg x = none) (hg : Gl X "zip") (ht : isTup tg = true) (hn : notStar ea = true) (hn2 : notStar eb = true)
    (ha : PA X [ea, eb] (rEs u fun env S => (f1 env S).bind fun x S => ((f2 env S).bind fun y S => (Res.ok [] S).bind fun ys S => .ok (y :: ys) S).bind fun xs S => .ok (x :: xs) S)) :
    PI X tg (.Call (.Name "zip" np) [ea, eb] [] pos) (rI u fun env S => ((f1 env S).bind fun x S => (f2 env S).bind fun y S => lift ((evZipA x y).map .lst) S).bind fun x S => lift (items x) S) := by
  cases tg <;> first | cases ht | skip
  refine (RZ.pi_zipA hg (hm _ (by decide +kernel)) ha (star_cons hn _ _) (by rw [star_cons hn2]; rfl)).imp fun σ H R ⟨g, env, S, sr, p⟩ => ⟨g, env, S, sr, ?_⟩
  dsimp only at p ⊢
  cases q : f1 env S with
  | ok x S1 =>
    rw [q] at p
    simp only [Res.ok_bind] at p ⊢
    cases q2 : f2 env S1 with
    | ok y S2 =>
      rw [q2] at p
      intro vs H' g' b f' n
      obtain ⟨v, w, rfl, n1, n2⟩ := Reps.inv2 (ds := []) n
      have p : PostI u.K u.ca u.W g H σ ((lift ((evZipA x y).map .lst) S2).bind fun x S => lift (items x) S) R := p
      cases x <;> cases y <;> first | exact p.elim | skip
      · obtain ⟨a, vs, rfl, k1, z1, r1⟩ := n1.tup_inv
        obtain ⟨a', vs', rfl, k2, z2, r2⟩ := n2.tup_inv
        rw [← hK]
        exact ⟨a, a', vs, vs', rfl, .inr ⟨SqT.mono b.sub k1, SqT.mono b.sub k2, p _ H' g' b f' (wd_zipT k1 z1 r1 k2 z2 r2)⟩⟩
      · obtain ⟨a, vs, rfl, k1, z1, r1⟩ := n1.lst_inv
        obtain ⟨a', vs', rfl, k2, z2, r2⟩ := n2.lst_inv
        rw [← hK]
        exact ⟨a, a', vs, vs', rfl, .inl ⟨.inl (.inl (b.sub _ _ k1)), .inl (.inl (b.sub _ _ k2)), p _ H' g' b f' (wd_zip (.inl (.inl k1)) z1 r1 (.inl (.inl k2)) z2 r2)⟩⟩
    | exc x S' =>
      rw [q2] at p
      exact p
    | err =>
      rw [q2] at p
      exact p
  | exc x S' =>
    rw [q] at p
    exact p
  | err =>
    rw [q] at p
    exact p
theorem i_enum {np : Pos} (hK : u.K = X.K) (hm : ∀ x ∈ biNames, X.mg x = none) (hg : Gl X "enumerate") (ht : isTup tg = true) (hn : notStar ea = true)
    (ha : PA X [ea] (rEs u fun env S => (f1 env S).bind fun x S => (Res.ok [] S).bind fun xs S => .ok (x :: xs) S)) :
    PI X tg (.Call (.Name "enumerate" np) [ea] [] pos) (rI u fun env S => ((f1 env S).bind fun x S => lift ((evEnum x).map .lst) S).bind fun x S => lift (items x) S) := by
  cases tg <;> first | cases ht | skip
  refine (pi_enum hg (hm _ (by decide +kernel)) ha (star_cons hn _ _)).imp fun σ H R ⟨g, env, S, sr, p⟩ => ⟨g, env, S, sr, ?_⟩
  dsimp only at p ⊢
  cases q : f1 env S with
  | ok x S1 =>
    rw [q] at p
    simp only [Res.ok_bind] at p ⊢
    intro vs H' g' b f' n
    cases n with
    | cons n1 t =>
      cases t
      cases x <;> first | exact p.elim | skip
      obtain ⟨a, vs, rfl, k1, z1, r1⟩ := Rep.lst_inv n1
      rw [← hK]
      exact ⟨a, vs, rfl, .inl (.inl (b.sub _ _ k1)), p _ H' g' b f' (wd_enum (.inl (.inl k1)) z1 r1)⟩
  | exc x S' =>
    rw [q] at p
    exact p
  | err =>
    rw [q] at p
    exact p
/-! ### comprehensions -/
theorem own_none : ∀ {is : List Nat} {o : List Bool}, (is.all fun i => !own o i) = true → frzs o is = o
  | [], _, _ => rfl
  | i :: is, o, h => by
    rw [List.all_cons, Bool.and_eq_true, Bool.not_eq_true'] at h
    have e : o.set i false = o := by
      have h1 := h.1
      unfold own at h1
      rw [List.getD_eq_getElem?_getD] at h1
      by_cases lt : i < o.length
      · rw [List.getElem?_eq_getElem lt] at h1
        have h1 : o[i] = false := h1
        rw [← h1]
        exact List.set_getElem_self lt
      · exact List.set_eq_of_length_le (by omega)
    show frzs (o.set i false) is = o
    rw [e]
    exact own_none h.2
theorem ownC_map (N : List Str) : ∀ is : List Nat, (ownC N is).map (·.2) = is
  | [] => rfl
  | i :: is => by
    show i :: (ownC N is).map (·.2) = _
    rw [ownC_map N is]
theorem SR.wipe : ∀ (is : List Nat), u.SR g env S σ H → u.SR g (wipeE env is) S (L2.wipe σ is) H
  | [], r => r
  | i :: is, r => (SR.wipe is r).forget i
theorem wipe_get {σ : L2.St} {j : Nat} : ∀ {is : List Nat}, j ∉ is → (L2.wipe σ is)[j]? = σ[j]?
  | [], _ => rfl
  | i :: is, h => by
    show ((L2.wipe σ is).set i none)[j]? = _
    rw [List.getElem?_set_ne fun z => h (by rw [z]; exact List.mem_cons_self)]
    exact wipe_get fun z => h (List.mem_cons_of_mem _ z)
theorem wipe_in {σ : L2.St} {j : Nat} (lt : j < σ.length) : ∀ {is : List Nat}, j ∈ is → (L2.wipe σ is)[j]? = some none
  | i :: is, h => by
    show ((L2.wipe σ is).set i none)[j]? = _
    by_cases z : i = j
    · subst z
      rw [List.getElem?_set_self (by rw [wipe_length]; exact lt)]
    · rw [List.getElem?_set_ne z]
      rcases List.mem_cons.mp h with q | q
      · exact absurd q.symm z
      · exact wipe_in lt q
/-- the rest of the slots is as it was -/
theorem wipe_back {σ σ2 : L2.St} {is : List Nat} (hl : σ2.length = (L2.wipe σ is).length) (h : ∀ i, i ∉ is → σ2[i]? = (L2.wipe σ is)[i]?) : L2.wipe σ2 is = L2.wipe σ is := by
  rw [wipe_length] at hl
  refine List.ext_getElem? fun j => ?_
  by_cases hj : j ∈ is
  · by_cases lt : j < σ.length
    · rw [wipe_in (by omega) hj, wipe_in lt hj]
    · rw [List.getElem?_eq_none (by rw [wipe_length]; omega), List.getElem?_eq_none (by rw [wipe_length]; omega)]
  · rw [wipe_get hj, h j hj, wipe_get hj]
theorem Bs.upd {K : PySem.W.Frag} {ca : Nat → Addr} {a : Addr} {x : HO} (b : Bs K ca g S H) (n : g.G a = none) (nf : ¬ g.fp a) : Bs K ca g S (upd H a x) where
  sub := fun c y e => by
    have ne : c ≠ a := fun z => by
      rw [z, n] at e
      cases e
    rw [upd_ne ne]
    exact b.sub _ _ e
  off := b.off
  len := b.len
  cell := fun k as c h1 h2 => (b.cell k as c h1 h2).mono (GhLe.refl g) fun d hd => by
    have ne : d ≠ a := fun z => nf ⟨as, List.mem_of_getElem? h1, by rw [← z]; exact hd⟩
    rw [upd_ne ne]
  nd := b.nd
theorem Fr.upd {g1 : Gh} {H1 : Hp} {a : Addr} {x : HO} (f : Fr g1 H1 g H) (n : H1 a = none) : Fr g1 H1 g (upd H a x) where
  le := f.le
  keep := fun c y e nf => by
    have ne : c ≠ a := fun z => by
      rw [z, n] at e
      cases e
    rw [upd_ne ne]
    exact f.keep c y e nf
  dom := fun c h => by
    by_cases z : c = a
    · rw [z, upd_same]
      simp
    · rw [upd_ne z]
      exact f.dom c h
  fpn := f.fpn
  gn := f.gn
theorem Fr.gnone {g' : Gh} {H' : Hp} {a : Addr} {x : HO} (f : Fr g H g' H') (e : H a = some x) (n : g.G a = none) : g'.G a = none := by
  cases q : g'.G a with
  | none => rfl
  | some y =>
    rcases f.gn a (by rw [q]; simp) with z | z
    · exact absurd n z
    · rw [e] at z
      cases z
def compF (tg : Tg) (fc : Env → Sto → Res Bool) (fe : Env → Sto → Res D) (env : Env) : D → Sto → Res (Option D) := fun d S => match Tg.set tg d (wipeE env tg.slots) with
  | some env' => ((fc env' S).bind fun k S => if k then (fe env' S).bind fun y S => .ok (some y) S else .ok none S).noexc
  | none => .err
theorem compL_noexc {f : D → Sto → Res (Option D)} (h : ∀ d S x S', f d S ≠ .exc x S') : ∀ (ds : List D) (S : Sto) (x : Exc) (S' : Sto), compL f ds S ≠ .exc x S'
  | [], S, x, S', z => by cases z
  | d :: ds, S, x, S', z => by
    unfold compL at z
    cases q : f d S with
    | ok o S1 =>
      rw [q] at z
      simp only [Res.ok_bind] at z
      cases q2 : compL f ds S1 with
      | ok r S2 =>
        rw [q2] at z
        cases z
      | exc y S2 => exact compL_noexc h ds S1 y S2 q2
      | err =>
        rw [q2] at z
        cases z
    | exc y S2 => exact h _ _ _ _ q
    | err =>
      rw [q] at z
      cases z
theorem noexc_ne {α : Type} {r : Res α} {x : Exc} {S : Sto} : r.noexc ≠ .exc x S := by
  cases r <;> intro z <;> cases z
theorem noexc_ok {α : Type} {r : Res α} {a : α} {S : Sto} (h : r.noexc = .ok a S) : r = .ok a S := by
  cases r <;> first | exact h | cases h
/-- the block's surroundings -/
def Su.blk (u : Su) : Su := { u with W := fun _ _ _ _ => False }
theorem lc_read {tgt : Tg} {fi : Env → Sto → Res (List D)} {fc : Env → Sto → Res Bool} {fe : Env → Sto → Res D} (ho : (tgt.slots.all fun i => !own u.o i) = true) {σ : L2.St} {H : Hp} {Q : VK}
    (h : rN u true (fun env S => (fi env S).bind fun ds S => (compL (compF tgt fc fe env) ds S).bind fun r S => .ok (.lst r) S) σ H Q) : tLc (rI u fi) (gT u.blk tgt) (rT u.blk fc) (rE u.blk fe) tgt.slots σ H Q := by
  obtain ⟨g, env, S, sr, p⟩ := h
  refine ⟨g, env, S, sr, ?_⟩
  dsimp only at p ⊢
  cases q : fi env S with
  | exc x S' =>
    rw [q] at p
    exact p
  | err =>
    rw [q] at p
    exact p
  | ok ds S1 =>
    rw [q] at p
    intro J H1 g1 b1 fr1 wd Da nD
    have p1 := PostN.later fr1 p
    have s1 := sr.next fr1 b1
    simp only [Res.ok_bind] at p1
    have hne : ∀ d S x S', compF tgt fc fe env d S ≠ .exc x S' := fun d S x S' => by
      unfold compF
      split
      · exact noexc_ne
      · exact fun z => by cases z
    cases q1 : compL (compF tgt fc fe env) ds S1 with
    | exc x S' => exact absurd q1 (compL_noexc hne ds S1 x S')
    | err =>
      rw [q1] at p1
      exact p1.elim
    | ok r Sf =>
      rw [q1] at p1
      obtain ⟨G, Y, w, hG, hY⟩ := wd.ex
      refine lc_it w (fun i H => ∃ g2 S2 acc ys r2, Bs u.K u.ca g2 S2 H ∧ Fr g1 H1 g2 H ∧ ¬ g2.fp Da ∧ g2.G Da = none ∧ H Da = some (.lst acc) ∧ Reps u.K u.ca g2 acc ys ∧ acc.length ≤ i ∧ compL (compF tgt fc fe env) (ds.drop i) S2 = .ok r2 Sf ∧ ys ++ r2 = r) ?_ ?_ ?_ ?_
      · exact ⟨g1, S1, [], [], r, b1.grow (same_upd nD), Fr.grow (same_upd nD), Gh.nfp_new b1 nD, Gh.G_none b1.sub nD, upd_same, .nil, Nat.zero_le _, q1, rfl⟩
      · rintro i H2 hi ⟨g2, S2, acc, ys, r2, b2, f2, _⟩
        exact hG g2 S2 H2 f2.le b2
      · rintro i x H2 H3 hi ⟨g2, S2, acc, ys, r2, b2, f2, nf, gn, hD, ra, hl, hr, hy⟩ hx
        obtain ⟨d, hd⟩ : ∃ d, ds[i]? = some d := ⟨ds[i], List.getElem?_eq_getElem hi⟩
        obtain ⟨g3, f3, b3, rx⟩ := hY i d g2 S2 H2 x H3 hd f2.le b2 hx
        have hdr : ds.drop i = d :: ds.drop (i + 1) := by
          have e := List.getElem_cons_drop hi
          rw [← e]
          rw [List.getElem?_eq_getElem hi] at hd
          cases hd
          rfl
        rw [hdr] at hr
        unfold compL at hr
        cases q2 : compF tgt fc fe env d S2 with
        | exc y S' => exact absurd q2 (hne _ _ _ _)
        | err =>
          rw [q2] at hr
          cases hr
        | ok o S3 =>
          rw [q2] at hr
          simp only [Res.ok_bind] at hr
          unfold compF at q2
          cases q3 : Tg.set tgt d (wipeE env tgt.slots) with
          | none =>
            rw [q3] at q2
            cases q2
          | some env' =>
            rw [q3] at q2
            have q2 := noexc_ok q2
            have sw : u.blk.SR g3 (wipeE env tgt.slots) S2 (L2.wipe σ tgt.slots) H3 := SR.wipe (u := u) tgt.slots (((s1.next f2 b2)).next f3 b3)
            refine ⟨g3, _, S2, d, env', sw, rx, q3, fun σ2 s2 l2 k2 => ⟨wipe_back l2 k2, g3, env', S2, ?_, ?_⟩⟩
            · have e0 : frzs u.blk.o tgt.slots = u.blk.o := own_none ho
              rw [e0] at s2
              exact s2
            · have e0 : frzs u.blk.o tgt.slots = u.blk.o := own_none ho
              rw [e0] at s2
              have s2 : u.blk.SR g3 env' S2 σ2 H3 := s2
              cases q4 : fc env' S2 with
              | exc y S' =>
                rw [q4] at q2
                cases q2
              | err =>
                rw [q4] at q2
                cases q2
              | ok k S4 =>
                rw [q4] at q2
                simp only [Res.ok_bind] at q2
                intro H4 g4 b4 f4
                have hD3 : H3 Da = some (.lst acc) := f3.keep _ _ hD nf
                have nf3 := f3.nfp hD nf
                have gn3 := f3.gnone hD gn
                have hD4 : H4 Da = some (.lst acc) := f4.keep _ _ hD3 nf3
                have nf4 := f4.nfp hD3 nf3
                have gn4 := f4.gnone hD3 gn3
                cases k with
                | false =>
                  cases q2
                  cases q5 : compL (compF tgt fc fe env) (ds.drop (i + 1)) S3 with
                  | exc y S' =>
                    rw [q5] at hr
                    cases hr
                  | err =>
                    rw [q5] at hr
                    cases hr
                  | ok r3 S5 =>
                    rw [q5] at hr
                    cases hr
                    exact ⟨g4, S3, acc, ys, r3, b4, (f2.trans f3).trans f4, nf4, gn4, hD4, ra.mono (f3.trans f4).le, Nat.le_succ_of_le hl, q5, hy⟩
                | true =>
                  have q2 : ((fe env' S4).bind fun y S => Res.ok (some y) S) = .ok o S3 := q2
                  refine ⟨g4, env', S4, s2.next f4 b4, ?_⟩
                  cases q6 : fe env' S4 with
                  | exc y S' =>
                    rw [q6] at q2
                    cases q2
                  | err =>
                    rw [q6] at q2
                    cases q2
                  | ok y S5 =>
                    rw [q6] at q2
                    cases q2
                    intro vy H5 g5 b5 f5 ry
                    have ry : Rep u.K u.ca g5 vy y := ry
                    have hD5 : H5 Da = some (.lst acc) := f5.keep _ _ hD4 nf4
                    have nf5 := f5.nfp hD4 nf4
                    have gn5 := f5.gnone hD4 gn4
                    have hz := wd.len
                    refine ⟨acc, hD5, by omega, ?_⟩
                    cases q5 : compL (compF tgt fc fe env) (ds.drop (i + 1)) S3 with
                    | exc y S' =>
                      rw [q5] at hr
                      cases hr
                    | err =>
                      rw [q5] at hr
                      cases hr
                    | ok r3 S6 =>
                      rw [q5] at hr
                      cases hr
                      refine ⟨g5, S3, acc ++ [vy], ys ++ [y], r3, b5.upd gn5 nf5, (((f2.trans f3).trans f4).trans f5).upd nD, nf5, gn5, upd_same, (ra.mono ((f3.trans f4).trans f5).le).append (.cons ry .nil), ?_, q5, ?_⟩
                      · rw [List.length_append]
                        show acc.length + 1 ≤ i + 1
                        omega
                      · rw [← hy, List.append_assoc]
                        rfl
      · rintro H2 ⟨g2, S2, acc, ys, r2, b2, f2, nf, gn, hD, ra, hl, hr, hy⟩
        rw [List.drop_length] at hr
        cases hr
        rw [List.append_nil] at hy
        subst hy
        refine p1 (.ref Da) H2 g2 b2 f2 ?_
        show NewD u.K u.ca H1 g2 H2 (.ref Da) (.lst ys)
        rw [NewD.mut rfl]
        have hz := wd.len
        exact ⟨Da, rfl, nD, gn, nf, acc, hD, by omega, ra⟩
theorem e_comp {own_ : List (Str × Nat)} {scope : Scope} {tgt : Tg} {eifs : List Expr} {eit : Expr} {fi : Env → Sto → Res (List D)} {fc : Env → Sto → Res Bool} {fe : Env → Sto → Res D}
    (hK : u.K = X.K) (hc : X.calm = true) (hN : X.N.Nodup) (hi : PI X tg eit (rI u fi)) (hb : BlkOk X.N X.env.scope scope own_) (ho : (tgt.slots.all fun i => !own u.o i) = true) (hw : own_.map (·.2) = tgt.slots)
    (hg : ∀ (s : Shared) (H : Hp) (C : Addr) (cl : List (Str × Addr)) (fp : List Addr), PG (X.blk s H scope (compEnvC scope cl C X.env) fp) tg (gT u.blk tgt))
    (ht : ∀ (s : Shared) (H : Hp) (C : Addr) (cl : List (Str × Addr)) (fp : List Addr), PTs (X.blk s H scope (compEnvC scope cl C X.env) fp) eifs (rT u.blk fc))
    (he : ∀ (s : Shared) (H : Hp) (C : Addr) (cl : List (Str × Addr)) (fp : List Addr), PE (X.blk s H scope (compEnvC scope cl C X.env) fp) ea (rE u.blk fe))
    (hs : ∀ x, foldedSetIterable eit X.env x = pure x) :
    PE X (.ListComp ea [⟨tg, eit, eifs, 0⟩] scope pos) (rN u true fun env S => (fi env S).bind fun ds S => (compL (compF tgt fc fe env) ds S).bind fun r S => .ok (.lst r) S) := by
  rw [← hw] at ho
  have q := pe_lc (pos := pos) hc hN hi hb hg ht he hs
  rw [hw] at q ho
  exact q.imp fun σ H Q h => lc_read ho h
end
end VE

set_option Elab.async false
set_option linter.all false
set_option maxRecDepth 100000
set_option maxHeartbeats 4000000
/-! VE, part I: instances: their fields read, methods called, new ones made. -/
namespace VE
open PySem PySem.Spec PyProof.Rows L2

section
variable {K : PySem.W.Frag} {ca : Nat → Addr} {g : Gh} {H : Hp}
theorem Flds.names {ls : List Addr} {fv : List (Str × V)} {fs : List (Str × D)} (h : Flds K ca g H ls fv fs) : fv.map (·.1) = fs.map (·.1) := by
  induction h with
  | nil => rfl
  | imm _ _ _ ih => rw [List.map_cons, List.map_cons, ih]
  | own _ _ ih => rw [List.map_cons, List.map_cons, ih]
theorem Flds.none {ls : List Addr} {fv : List (Str × V)} {fs : List (Str × D)} {x : Str} (h : Flds K ca g H ls fv fs) : fs.lookup x = none → fv.lookup x = none := by
  induction h with
  | nil => exact fun _ => rfl
  | @imm y v d ls fv fs z r t ih =>
    intro e
    simp only [List.lookup] at e ⊢
    cases q : x == y with
    | true =>
      rw [q] at e
      cases e
    | false =>
      rw [q] at e
      exact ih e
  | @own y l d ls fv fs r t ih =>
    intro e
    simp only [List.lookup] at e ⊢
    cases q : x == y with
    | true =>
      rw [q] at e
      cases e
    | false =>
      rw [q] at e
      exact ih e
theorem Flds.at_ {ls : List Addr} {fv : List (Str × V)} {fs : List (Str × D)} {x : Str} {d : D} (h : Flds K ca g H ls fv fs) : fs.lookup x = some d → ∃ v, fv.lookup x = some v ∧ ((d.isMut = false ∧ Rep K ca g v d) ∨ ∃ l ∈ ls, v = .ref l ∧ Holds K ca g H l d) := by
  induction h with
  | nil =>
    intro e
    cases e
  | @imm y v d1 ls fv fs z r t ih =>
    intro e
    simp only [List.lookup] at e ⊢
    cases q : x == y with
    | true =>
      rw [q] at e
      cases e
      exact ⟨v, rfl, .inl ⟨z, r⟩⟩
    | false =>
      rw [q] at e
      exact ih e
  | @own y l d1 ls fv fs r t ih =>
    intro e
    simp only [List.lookup] at e ⊢
    cases q : x == y with
    | true =>
      rw [q] at e
      cases e
      exact ⟨.ref l, rfl, .inr ⟨l, List.mem_cons_self, rfl, r⟩⟩
    | false =>
      rw [q] at e
      obtain ⟨v, e1, e2⟩ := ih e
      refine ⟨v, e1, ?_⟩
      rcases e2 with e2 | ⟨l2, m, e3, e4⟩
      · exact .inl e2
      · exact .inr ⟨l2, List.mem_cons_of_mem _ m, e3, e4⟩
end
section
variable {X : Cx} {u : Su} {g : Gh} {env : Env} {S : Sto} {σ : L2.St} {H : Hp} {Q : VK} {c i n : Nat} {x : Str} {fs : List (Str × D)}
/-- an instance in a slot -/
theorem ins_at (sr : u.SR g env S σ H) (h : insOf env S c i = some (n, fs)) : ∃ a dx ls fv, env[i]? = some (some (.obj n)) ∧ S[n]? = some (.ins c fs) ∧ σ[i]? = some (some (.ref a)) ∧ g.A[n]? = some (a :: dx :: ls) ∧ H a = some (.ins (u.ca c) dx fv) ∧ H dx = some (.own a) ∧ Flds u.K u.ca g H ls fv fs := by
  unfold insOf at h
  split at h
  · rename_i n1 e1
    split at h
    · rename_i c1 fs1 e2
      split at h
      · rename_i ec
        cases h
        subst ec
        obtain ⟨v, s1, s2⟩ := sr.slot i _ e1
        rw [SlotOk.frz_ (by show (_ && false) = false; rw [Bool.and_false])] at s2
        obtain ⟨a, rfl, ea⟩ := Rep.obj_inv s2
        unfold Gh.at_ at ea
        cases q : g.A[n]? with
        | none =>
          rw [q] at ea
          cases ea
        | some l =>
          rw [q] at ea
          obtain ⟨a', dx, ls, fv, rfl, h1, h2, h3⟩ := sr.bs.cell n l _ q e2
          have e : a' = a := by simpa using ea
          subst e
          exact ⟨a', dx, ls, fv, e1, e2, s1, rfl, h1, h2, h3⟩
      · cases h
    · cases h
  · cases h
/-- the reading of a field -/
def rFld (u : Su) (c i : Nat) (x : Str) (k : D → Sto → Res D) (fr : Bool) : TE := rN u fr fun env S => match fldOf env S c i x with
  | some d => k d S
  | none => .err
theorem fld_at {fr : Bool} {k : D → Sto → Res D} (sr : u.SR g env S σ H) (p : PostN u.K u.ca u.W fr g H σ (match fldOf env S c i x with
    | some d => k d S
    | none => .err) Q) : ∃ a dx ls fv fs n v d, insOf env S c i = some (n, fs) ∧ fs.lookup x = some d ∧ σ[i]? = some (some (.ref a)) ∧ g.A[n]? = some (a :: dx :: ls) ∧ H a = some (.ins (u.ca c) dx fv) ∧ fv.lookup x = some v ∧ ((d.isMut = false ∧ Rep u.K u.ca g v d) ∨ ∃ l ∈ ls, v = .ref l ∧ Holds u.K u.ca g H l d) ∧ PostN u.K u.ca u.W fr g H σ (k d S) Q := by
  unfold fldOf at p
  cases q : insOf env S c i with
  | none =>
    rw [q] at p
    exact p.elim
  | some r =>
    obtain ⟨n, fs⟩ := r
    rw [q] at p
    obtain ⟨a, dx, ls, fv, e1, e2, e3, e4, e5, e6, e7⟩ := ins_at sr q
    dsimp only [Option.bind_some] at p
    cases q2 : fs.lookup x with
    | none =>
      rw [q2] at p
      exact p.elim
    | some d =>
      rw [q2] at p
      obtain ⟨v, f1, f2⟩ := e7.at_ q2
      exact ⟨a, dx, ls, fv, fs, n, v, d, rfl, q2, e3, e4, e5, f1, f2, p⟩
variable {p : Pg} {rc : Nat → List D → Sto → Res D} {sc : Scope} {e ea ei ee etg eit : Expr} {pos : Pos}
theorem slot_of (xo : XO X u p rc sc) (h : slotB X.N i sc e = true) : ∃ y yp, e = .Name y yp ∧ PE X e (tVar i) := by
  unfold slotB at h
  split at h
  · simp only [Bool.and_eq_true, decide_eq_true_eq] at h
    rename_i y yp
    have vs : Vis X.env.scope y := by
      rw [xo.scope]
      exact vis_of h.2.1
    exact ⟨_, _, rfl, pe_var h.1 vs (plain_of h.2.2).1 (plain_of h.2.2).2.1⟩
  · cases h
/-- o.x as it stands: the value in hand -/
theorem fld_of (xo : XO X u p rc sc) (h : fldB p X.N c i x sc e = true) : Cls X.K (u.ca c) ∧ NoAttr X.K (u.ca c) x ∧ plainTest e = true ∧ PE X e (tFld X.K (tVar i) x) := by
  unfold fldB at h
  split at h
  · rename_i eo nm fpos
    simp only [Bool.and_eq_true, decide_eq_true_eq] at h
    obtain ⟨h1, rfl, h3⟩ := h
    split at h3
    · rename_i k hk
      obtain ⟨y, yp, rfl, q⟩ := slot_of xo h1
      obtain ⟨c1, c2, c3⟩ := xo.cl c k hk
      refine ⟨c2, c3 nm (by simpa using h3), rfl, pe_fld q ?_⟩
      exact attr_base rfl _ _ _
    · cases h3
  · cases h
theorem tfld_read {a dx : Addr} {fv : List (Str × V)} {v : V} {R : VK} (hc : Cls X.K (u.ca c)) (hn : NoAttr X.K (u.ca c) x) (s1 : σ[i]? = some (some (.ref a))) (h1 : H a = some (.ins (u.ca c) dx fv)) (h2 : fv.lookup x = some v) (q : R v H) : tFld X.K (tVar i) x σ H R :=
  ⟨_, s1, a, _, dx, fv, v, rfl, h1, hc, hn, h2, q⟩
theorem e_fld (xo : XO X u p rc sc) (h : fldB p X.N c i x sc e = true) (m : Md) : Ok X u m false (evE p.gl rc (.fld c i x)) e := by
  obtain ⟨hc, hn, pl, q⟩ := fld_of xo h
  refine ok_of xo.K (q.imp fun σ H Q ⟨g, env, S, sr, p⟩ => ?_) pl
  obtain ⟨a, dx, ls, fv, fs, n, v, d, i1, i2, i3, i4, i5, i6, i7, p⟩ := fld_at (k := fun d S => if d.isMut = true then .err else .ok d S) sr p
  refine tfld_read hc hn i3 i5 i6 ?_
  by_cases z : d.isMut = true
  · rw [if_pos z] at p
    exact p.elim
  · rw [if_neg z] at p
    rcases i7 with ⟨_, r⟩ | ⟨l, _, _, hh⟩
    · exact p.there sr r
    · exact absurd hh.isMut z
/-- a list among the fields -/
theorem lst_at {fr : Bool} {k : List D → Sto → Res D} (sr : u.SR g env S σ H) (p : PostN u.K u.ca u.W fr g H σ (match fldOf env S c i x with
    | some (.lst xs) => k xs S
    | _ => .err) Q) : ∃ a dx ls fv fs n l xs vs, insOf env S c i = some (n, fs) ∧ fs.lookup x = some (.lst xs) ∧ σ[i]? = some (some (.ref a)) ∧ g.A[n]? = some (a :: dx :: ls) ∧ l ∈ ls ∧ H a = some (.ins (u.ca c) dx fv) ∧ fv.lookup x = some (.ref l) ∧ H l = some (.lst vs) ∧ vs.length ≤ sizeLine ∧ Reps u.K u.ca g vs xs ∧ PostN u.K u.ca u.W fr g H σ (k xs S) Q := by
  have p2 : PostN u.K u.ca u.W fr g H σ (match fldOf env S c i x with
    | some d => (match d with
      | .lst xs => k xs S
      | _ => .err)
    | none => .err) Q := by
    cases q : fldOf env S c i x with
    | none =>
      rw [q] at p
      exact p
    | some d =>
      rw [q] at p
      cases d <;> exact p
  obtain ⟨a, dx, ls, fv, fs, n, v, d, i1, i2, i3, i4, i5, i6, i7, p3⟩ := fld_at (k := fun d S => match d with
    | .lst xs => k xs S
    | _ => .err) sr p2
  obtain ⟨xs, rfl⟩ : ∃ xs, d = .lst xs := by
    cases d <;> first | exact p3.elim | exact ⟨_, rfl⟩
  rcases i7 with ⟨z, _⟩ | ⟨l, m, e1, hh⟩
  · cases z
  · obtain ⟨vs, h1, h2, h3⟩ := hh
    subst e1
    exact ⟨a, dx, ls, fv, fs, n, l, xs, vs, i1, i2, i3, i4, m, i5, i6, h1, h2, h3, p3⟩
theorem e_flen {np : Pos} (xo : XO X u p rc sc) (hg : Gl X "len") (hs : notStar ea = true) (h : fldB p X.N c i x sc ea = true) (m : Md) : Ok X u m true (evE p.gl rc (.flen c i x)) (.Call (.Name "len" np) [ea] [] pos) := by
  obtain ⟨hc, hn, pl, q⟩ := fld_of xo h
  have b1 : bootBuiltins (Str.ofString "len") = some (.builtin "len") := by decide +kernel
  refine ok_of xo.K ((pe_callB (p := np) (pos := pos) call_len hg (xo.bi _ (by decide +kernel)) b1 (pa_cons q pa_nil (star_cons hs _ _)) (by decide +kernel) (by decide +kernel) (star_cons hs _ _) rfl).imp fun σ H Q ⟨g, env, S, sr, p⟩ => ?_) rfl
  obtain ⟨a, dx, ls, fv, fs, n, l, xs, vs, i1, i2, i3, i4, i5, i6, i7, i8, i9, i10, p⟩ := lst_at (k := fun xs S => .ok (.int xs.length) S) sr p
  refine tfld_read hc hn i3 i6 i7 ⟨_, _, rfl, .inl ⟨vs, .inl (.inl i8), rfl⟩, ?_⟩
  rw [i10.length]
  exact p.here sr (.int _) rfl
theorem e_ftup {np : Pos} (xo : XO X u p rc sc) (hg : Gl X "tuple") (hs : notStar ea = true) (h : fldB p X.N c i x sc ea = true) (m : Md) : Ok X u m true (evE p.gl rc (.ftup c i x)) (.Call (.Name "tuple" np) [ea] [] pos) := by
  obtain ⟨hc, hn, pl, q⟩ := fld_of xo h
  have b1 : bootBuiltins (Str.ofString "tuple") = some (.type "tuple") := by decide +kernel
  refine ok_of xo.K ((pe_callTy (p := np) (pos := pos) call_tuple_of hg (xo.bi _ (by decide +kernel)) b1 (pa_cons q pa_nil (star_cons hs _ _)) (by decide +kernel) (by decide +kernel) (star_cons hs _ _) rfl).imp fun σ H Q ⟨g, env, S, sr, p⟩ => ?_) rfl
  obtain ⟨a, dx, ls, fv, fs, n, l, xs, vs, i1, i2, i3, i4, i5, i6, i7, i8, i9, i10, p⟩ := lst_at (k := fun xs S => .ok (.tup xs) S) sr p
  exact tfld_read hc hn i3 i6 i7 ⟨l, vs, rfl, .inl ⟨.inl (.inl i8), fun q nq => p.tup sr i10 i9 nq⟩⟩
theorem e_fix {k : Int} (xo : XO X u p rc sc) (hi : ixB k ei = true) (h : fldB p X.N c i x sc ea = true) (m : Md) : Ok X u m false (evE p.gl rc (.fix c i x k)) (.Subscript ea ei pos) := by
  obtain ⟨hc, hn, pl, q⟩ := fld_of xo h
  have two : PlainIx ei ∧ PE X ei (tC (.int k)) := by
    unfold ixB at hi
    split at hi
    · rw [decide_eq_true_eq] at hi
      subst hi
      refine ⟨fun _ _ => rfl, (pe_un un_neg pe_int).imp fun σ H Q h => ⟨_, rfl, h⟩⟩
    · rw [decide_eq_true_eq] at hi
      subst hi
      exact ⟨fun _ _ => rfl, pe_int⟩
    · cases hi
  refine ok_of xo.K ((pe_ix (pos := pos) ix_rule q two.2 two.1).imp fun σ H Q ⟨g, env, S, sr, p⟩ => ?_) rfl
  obtain ⟨a, dx, ls, fv, fs, n, l, xs, vs, i1, i2, i3, i4, i5, i6, i7, i8, i9, i10, p⟩ := lst_at (k := fun xs S => lift (atI xs k) S) sr p
  refine tfld_read hc hn i3 i6 i7 ?_
  obtain ⟨d, e, p⟩ := lift_post p
  obtain ⟨z, h1, h2⟩ := i10.atI e
  exact .inl ⟨l, vs, _, z, rfl, rfl, .inl (.inl i8), h1, p.there sr h2⟩
theorem e_fne {op : List CmpOp} {ls : Pos} (xo : XO X u p rc sc) (h : fldB p X.N c i x sc ea = true) (m : Md) : Ok X u m false (evE p.gl rc (.fne c i x)) (.Compare ea [.NotEq] [.List [] ls] pos) := by
  obtain ⟨hc, hn, pl, q⟩ := fld_of xo h
  have hu64 : X.A.units + 64 < cLine := by
    have := xo.un
    omega
  have hr : OpR X (compareOp .NotEq) (rNeD X.K) := op_neD hu64
  have nl : PE X (.List [] ls) (tLst tNil) := pe_lst pa_nil
  refine ok_cmp (pe_cmpR hr q nl rfl) (pt_cmpR hr q nl rfl) (fun σ H Q ⟨g, env, S, sr, p⟩ => ?_) fun env S d S' h => ?_
  · obtain ⟨a, dx, ls, fv, fs, n, l, xs, vs, i1, i2, i3, i4, i5, i6, i7, i8, i9, i10, p⟩ := lst_at (k := fun xs S => (lift (evCmp .ne (.lst xs) (.lst [])) S).bind fun b S => .ok (.bl b) S) sr p
    refine tfld_read hc hn i3 i6 i7 ⟨Nat.zero_le _, fun q nq => ?_⟩
    cases e : evCmp .ne (.lst xs) (.lst []) with
    | none =>
      rw [e] at p
      exact p.elim
    | some b =>
      rw [e] at p
      have e' : (evEq (.lst xs) (.lst [])).map (!·) = some b := e
      cases e2 : evEq (.lst xs) (.lst []) with
      | none =>
        rw [e2] at e'
        cases e'
      | some k =>
        rw [e2] at e'
        obtain ⟨p1, p2, k1, k2, d1, d2, rfl⟩ := evEq_inv e2
        cases e'
        have nl : l ≠ q := fun z => by
          rw [z, nq] at i8
          cases i8
        simp only [D.pd] at k1
        cases q3 : D.pds xs with
        | none =>
          rw [q3] at k1
          cases k1
        | some ps =>
          rw [q3] at k1
          cases k1
          obtain ⟨w1, w2⟩ := Reps.dps (sr.bs.sub.trans (same_upd nq)) i10 q3
          have ee : p2 = .list [] := by
            simp only [D.pd, D.pds, Option.map_some, Option.some.injEq] at k2
            exact k2.symm
          subst ee
          rw [← xo.K]
          refine ⟨.list ps, .list [], .lst (.inl (.inl (by rw [upd_ne nl]; exact i8))) w1, .lst (.inl (.inl upd_same)) .nil, shaped_of (by simp only [PyData.canLay0]; exact w2) d1, shaped_of rfl d2, ?_⟩
          exact PostN.here (sr.grow (same_upd nq)) (PostN.later (Fr.grow (same_upd nq)) p) (.bl _) rfl
  · unfold evE at h
    split at h
    · exact bind_bl h
    · cases h
end
section
variable {X : Cx} {C : CXT} {k : Nat} {f : Addr} {fd : FuncData} {ps : List Str} {sp : Sp} {E : XK} {pins : List (Addr × Obj)} {σ : L2.St} {H : Hp} {s : Shared} {Q : VK} {us : List Value} {vs : List V}
theorem run_fnG (F : FnG X.prog X.w X.K X.mg X.base C k f fd ps sp) (rm : Room k X.A) (gd : X.A.guards = some []) (hb : L2.Binds X.K fd ps []) (hx : PassesAt C X σ E) (I : Inv X pins σ H s) (r : Vals vs us) (h : sp vs H Q E) :
    wpAny (model X.prog X.w) X.A (call (.ref f) us) (EP X pins σ Q) X.xe s := by
  have ln : us.length = ps.length := by
    rw [← r.length]
    exact F.len _ _ _ _ h
  have bd := hb s us I.kIn (by rw [List.append_nil]; exact ln)
  rw [List.append_nil] at bd
  refine wpAny_call (codeAny_mono (F.run X.A X.stack s H ⟨us, []⟩ us vs Q E rm gd I.env0 bd r h) fun r1 s2 hq => ?_)
  match r1, hq with
  | .error e, hq => exact hx pins H s e s2 I hq
  | .ok (.ret u), hq => exact I.after hq
  | .ok .next, hq => exact hq.elim
  | .ok .brk, hq => exact hq.elim
  | .ok .cont, hq => exact hq.elim
theorem under_make (B : Around) (c : Addr) (us : List Value) (h : B.guards = some []) : (B.under (.builtin "type.__call__" ⟨.ref c :: us, []⟩)).guards = some [] := by
  have z : (Code.builtin "type.__call__" ⟨.ref c :: us, []⟩).guards = [] := by
    have y : (Code.builtin "type.__call__" ⟨.ref c :: us, []⟩).isGuard = false := by
      show guardIds.contains "type.__call__" = false
      decide +kernel
    unfold Code.guards
    rw [y]
    rfl
  unfold Around.under
  dsimp only
  rw [z, h]
  rfl
theorem run_makeG {c : Addr} (M : Mk X.K c f) (F : FnG X.prog X.w X.K X.mg X.base C k f fd ps sp) (rm : Room (k + 1) X.A) (gd : X.A.guards = some []) (hb : L2.Binds X.K fd ps []) (hx : PassesAt C X σ E) (I : Inv X pins σ H s) (r : Vals vs us)
    (h : ∀ x dx, H x = none → H dx = none → dx ≠ x → sp (.ref x :: vs) (upd (upd H dx (.own x)) x (.ins c dx [])) (fun v H2 => v = .non ∧ Q (.ref x) H2) E) : wpAny (model X.prog X.w) X.A (call (.ref c) us) (EP X pins σ Q) X.xe s := by
  have q1 := h (s.heap.objs.size + 1) s.heap.objs.size (I.hok.fresh (Nat.le_succ _)) (I.hok.fresh (Nat.le_refl _)) (Nat.ne_of_lt (Nat.lt_succ_self _))
  have J := Inv.made (C := c) I
  have r2 : Vals (V.ref (s.heap.objs.size + 1) :: vs) (Value.ref (s.heap.objs.size + 1) :: us) := .cons rfl r
  have ln : (Value.ref (s.heap.objs.size + 1) :: us).length = ps.length := by
    rw [← r2.length]
    exact F.len _ _ _ _ q1
  have bd := hb _ (Value.ref (s.heap.objs.size + 1) :: us) J.kIn (by rw [List.append_nil]; exact ln)
  rw [List.append_nil] at bd
  refine wpAny_call (make_map (f := f) I.kIn M.makes M.init (beq_iff_eq.mp M.fn) (codeAny_mono (F.run _ X.stack _ _ ⟨Value.ref (s.heap.objs.size + 1) :: us, []⟩ _ _ _ E (rm.make c us []) (under_make X.A c us gd) (J.env0.make c us []) bd r2 q1) fun r1 s2 hq => ?_))
  match r1, hq with
  | .error e, hq => exact hx pins _ _ e s2 J hq
  | .ok (.ret u), hq =>
    obtain ⟨v, H2, J2, rv, ev, q2⟩ := J.after hq
    subst ev
    exact ⟨rv, ⟨.ref (s.heap.objs.size + 1), H2, J2, rfl, q2⟩⟩
  | .ok .next, hq => exact hq.elim
  | .ok .brk, hq => exact hq.elim
  | .ok .cont, hq => exact hq.elim
end
section
variable {X : Cx} {C : CXT} {k : Nat} {f cl : Addr} {fd : FuncData} {ps : List Str} {sp : Sp} {E : L2.St → XK} {m y : Str} {eo ea : Expr} {es : List Expr} {np apos pos : Pos} {ta : TE} {t : TA} {pl : Sem Bool}
theorem mt_eval {env : PySem.Env} (hb : attributeBase eo m env (eval eo env) = eval eo env) (hf : methodCallForm (es.length + 0) (backTo pos (starEach es env)) (backToKw pos (keywordEach [] env)) = true) (hl : (apos.endLine == pos.line) = true) :
    eval (.Call (.Attribute eo m apos) es [] pos) env = (do let ov ← eval eo env; standAt apos.atName; let (f, first) ← holding [ov] (getMethod ov m (do return (← importBound eo env).getD true)); callWith pos f first (backTo pos (starEach es env)) (backToKw pos (keywordEach [] env))) := by
  show (do let ov ← attributeBase eo m env (eval eo env); standAt apos.atName; methodCall eo m apos pos env ov (es.length + 0) (backTo pos (starEach es env)) (backToKw pos (keywordEach [] env))) = _
  rw [hb]
  unfold methodCall methodCallPos
  rw [hf, hl]
  rfl
def tMtG (cl : Addr) (m : Str) (sp : Sp) (E : L2.St → XK) (ta : TE) (t : TA) : TE := fun σ H Q => ta σ H fun x H1 => ∃ a dx fv, (x = .ref a ∧ H1 a = some (.ins cl dx fv)) ∧ fv.lookup m = none ∧ t σ H1 fun vs H2 => sp (.ref a :: vs) H2 Q (E σ)
theorem pe_mtG (he : PE X eo ta) (hc : Cls X.K cl) (hm : Meth X.K cl m f) (F : FnG X.prog X.w X.K X.mg X.base C k f fd ps sp) (rm : Room k X.A) (gd : X.A.guards = some []) (hb : L2.Binds X.K fd ps []) (hx : ∀ σ, PassesAt C X σ (E σ)) (ha : PA X (ea :: es) t)
    (h1 : starEach (ea :: es) X.env = (false, eval ea X.env) :: starEach es X.env) (h2 : (backTo pos (starEach es X.env)).any (·.1) = false)
    (h3 : eval (.Call (.Attribute eo m apos) (ea :: es) [] pos) X.env = (do let ov ← eval eo X.env; standAt apos.atName; let (f, first) ← holding [ov] (getMethod ov m pl); callWith pos f first (backTo pos (starEach (ea :: es) X.env)) (backToKw pos (keywordEach [] X.env))) := by rfl) :
    PE X (.Call (.Attribute eo m apos) (ea :: es) [] pos) (tMtG cl m sp E ta t) := by
  refine ⟨fun pins s σ H Q I pr => ?_⟩
  refine PySem.W.methodCall_KW (pl := pl) (wpAny_mono (he.run pins s σ H _ I pr) (fun v s1 hh => ?_) fun _ _ z => z) h3
  obtain ⟨x, H1, J, rx, a, dx, fv, ⟨ex, ea⟩, lk, q⟩ := hh
  subst ex
  obtain rfl : v = Value.ref a := rx
  refine getmeth_ok J ea hc hm lk ?_
  refine PySem.W.callWith_K (first := [.ref a]) (h₀ := X.base) I.ok.mod.kin hm.kp (wpAny_mono (ha.run pos pins s1 σ H1 _ J q) (fun us s2 hh => ?_) fun _ _ z => z) h1 h2
  obtain ⟨vs, H2, J2, rv, q2⟩ := hh
  exact ⟨J2.kIn, run_fnG (us := .ref a :: us) (vs := .ref a :: vs) F rm gd hb (hx σ) J2 (.cons rfl rv) q2⟩
theorem pe_mtG0 (he : PE X eo ta) (hc : Cls X.K cl) (hm : Meth X.K cl m f) (F : FnG X.prog X.w X.K X.mg X.base C k f fd ps sp) (rm : Room k X.A) (gd : X.A.guards = some []) (hb : L2.Binds X.K fd ps []) (hx : ∀ σ, PassesAt C X σ (E σ))
    (h3 : eval (.Call (.Attribute eo m apos) [] [] pos) X.env = (do let ov ← eval eo X.env; standAt apos.atName; let (f, first) ← holding [ov] (getMethod ov m pl); callWith pos f first (backTo pos (starEach [] X.env)) (backToKw pos (keywordEach [] X.env))) := by rfl) :
    PE X (.Call (.Attribute eo m apos) [] [] pos) (tMtG cl m sp E ta tNil) := by
  refine ⟨fun pins s σ H Q I pr => ?_⟩
  refine PySem.W.methodCall_KW (pl := pl) (wpAny_mono (he.run pins s σ H _ I pr) (fun v s1 hh => ?_) fun _ _ z => z) h3
  obtain ⟨x, H1, J, rx, a, dx, fv, ⟨ex, ea⟩, lk, q⟩ := hh
  subst ex
  obtain rfl : v = Value.ref a := rx
  refine getmeth_ok J ea hc hm lk ?_
  exact PySem.W.callWith_K0 (first := [.ref a]) J.kIn hm.kp (run_fnG (us := [.ref a]) (vs := [.ref a]) F rm gd hb (hx σ) J (.cons rfl .nil) q)
def tMkG (cl : Addr) (sp : Sp) (E : L2.St → XK) (t : TA) : TE := fun σ H Q => t σ H fun vs H1 => ∀ x dx, H1 x = none → H1 dx = none → dx ≠ x → sp (.ref x :: vs) (upd (upd H1 dx (.own x)) x (.ins cl dx [])) (fun v H2 => v = .non ∧ Q (.ref x) H2) (E σ)
theorem pe_mkG (M : Mk X.K cl f) (F : FnG X.prog X.w X.K X.mg X.base C k f fd ps sp) (rm : Room (k + 1) X.A) (gd : X.A.guards = some []) (hg : Gl X y) (hm : X.mg y = some (.ref cl)) (hb : L2.Binds X.K fd ps []) (hx : ∀ σ, PassesAt C X σ (E σ)) (ha : PA X (ea :: es) t)
    (hd : (y == ("__debug__" : Str)) = false) (h1 : starEach (ea :: es) X.env = (false, eval ea X.env) :: starEach es X.env) (h2 : (backTo pos (starEach es X.env)).any (·.1) = false) : PE X (.Call (.Name y np) (ea :: es) [] pos) (tMkG cl sp E t) := by
  refine ⟨fun pins s σ H Q I pr => wpAny_Call_Name_kw (ld_glob I hg hm ?_ hd)⟩
  refine PySem.W.callWith_K (h₀ := X.base) I.ok.mod.kin M.kp (wpAny_mono (ha.run pos pins s σ H _ I pr) (fun us s1 hh => ?_) fun _ _ z => z) h1 h2
  obtain ⟨vs, H1, J, rv, q⟩ := hh
  exact ⟨J.kIn, run_makeG M F rm gd hb (hx σ) J rv q⟩
theorem pe_mkG0 (M : Mk X.K cl f) (F : FnG X.prog X.w X.K X.mg X.base C k f fd ps sp) (rm : Room (k + 1) X.A) (gd : X.A.guards = some []) (hg : Gl X y) (hm : X.mg y = some (.ref cl)) (hb : L2.Binds X.K fd ps []) (hx : ∀ σ, PassesAt C X σ (E σ))
    (hd : (y == ("__debug__" : Str)) = false) : PE X (.Call (.Name y np) [] [] pos) (tMkG cl sp E tNil) :=
  ⟨fun pins s σ H Q I pr => wpAny_Call_Name_kw (ld_glob I hg hm (PySem.W.callWith_K0 I.kIn M.kp (run_makeG (us := []) M F rm gd hb (hx σ) I .nil pr)) hd)⟩
end
section
variable {X : Cx} {u : Su} {g : Gh} {env : Env} {S : Sto} {σ : L2.St} {H : Hp} {Q : VK} {c i n f : Nat} {m y : Str} {p : Pg} {rc : Nat → List D → Sto → Res D} {sc : Scope} {eo ea : Expr} {es : List Expr} {np apos pos : Pos} {F : Fn} {fs : Env → Sto → Res (List D)}
theorem obj_rep {a : Addr} {l : List Addr} (h : g.A[n]? = some (a :: l)) : Rep u.K u.ca g (.ref a) (.obj n) := .obj (by
  unfold Gh.at_
  rw [h]
  rfl)
/-- what follows the choice of a method -/
theorem mt_read (len : ∀ ds S, rc f ds S ≠ .err → ds.length = F.np) {fr : Bool} (hfr : fr = F.fresh) (sr : u.SR g env S σ H) (pq : PostN u.K u.ca u.W fr g H σ (match insOf env S c i with
    | some (n, q) => if q.lookup m = none then (fs env S).bind fun xs S => rc f (.obj n :: xs) S else .err
    | none => .err) Q) : tMtG (u.ca c) m (spR u.K u.ca rc f F) (WE u.W) (tVar i) (rEs u fs) σ H Q := by
  cases q : insOf env S c i with
  | none =>
    rw [q] at pq
    exact pq.elim
  | some r =>
    obtain ⟨n, fl⟩ := r
    rw [q] at pq
    dsimp only at pq
    by_cases z : fl.lookup m = none
    · rw [if_pos z] at pq
      obtain ⟨a, dx, ls, fv, e1, e2, e3, e4, e5, e6, e7⟩ := ins_at sr q
      refine ⟨_, e3, a, dx, fv, ⟨rfl, e5⟩, e7.none z, bindEs sr pq fun xs vs S1 g1 H1 s1 f1 rx p1 => ?_⟩
      subst hfr
      refine ⟨g1, S1, .obj n :: xs, s1.bs, .cons ((obj_rep e4).mono f1.le) rx, ?_, ?_⟩
      · rw [List.length_cons, rx.length, ← List.length_cons (a := D.obj n)]
        refine len _ S1 fun z => ?_
        rw [z] at p1
        exact p1
      · cases q2 : rc f (.obj n :: xs) S1 with
        | ok d S2 =>
          rw [q2] at p1
          exact p1
        | exc x S2 =>
          rw [q2] at p1
          exact p1
        | err =>
          rw [q2] at p1
          exact p1
    · rw [if_neg z] at pq
      exact pq.elim
theorem e_mcall (xo : XO X u p rc sc) (hs : slotB X.N i sc eo = true) (M : MtR X u.K u.ca rc f c m F) (k : Str × List Str) (hk : p.cls[c]? = some k) (hn : notStar ea = true) (ha : PA X (ea :: es) (rEs u fs)) (hst : (backTo pos (starEach es X.env)).any (·.1) = false) (hf : methodCallForm ((ea :: es).length + 0) (backTo pos (starEach (ea :: es) X.env)) (backToKw pos (keywordEach [] X.env)) = true) (hl : (apos.endLine == pos.line) = true) :
    PE X (.Call (.Attribute eo m apos) (ea :: es) [] pos) (rN u F.fresh fun env S => match insOf env S c i with
      | some (n, q) => if q.lookup m = none then (fs env S).bind fun xs S => rc f (.obj n :: xs) S else .err
      | none => .err) := by
  obtain ⟨kk, fa, fd, ps, F1, rm, hm, hb, _⟩ := M.ok
  obtain ⟨y, yp, rfl, q⟩ := slot_of xo hs
  exact (pe_mtG q (xo.cl c k hk).2.1 hm F1 (rm.mono (Nat.le_succ _)) xo.gd hb (fun σ => passAt xo.takes σ) ha (star_cons hn es X.env) hst (mt_eval (attr_base rfl _ _ _) hf hl)).imp fun σ H Q ⟨g, env, S, sr, p⟩ => mt_read M.len rfl sr p
theorem e_mcall0 (xo : XO X u p rc sc) (hs : slotB X.N i sc eo = true) (M : MtR X u.K u.ca rc f c m F) (k : Str × List Str) (hk : p.cls[c]? = some k) (hl : (apos.endLine == pos.line) = true) :
    PE X (.Call (.Attribute eo m apos) [] [] pos) (rN u F.fresh fun env S => match insOf env S c i with
      | some (n, q) => if q.lookup m = none then (Res.ok [] S).bind fun xs S => rc f (.obj n :: xs) S else .err
      | none => .err) := by
  obtain ⟨kk, fa, fd, ps, F1, rm, hm, hb, _⟩ := M.ok
  obtain ⟨y, yp, rfl, q⟩ := slot_of xo hs
  refine (pe_mtG0 q (xo.cl c k hk).2.1 hm F1 (rm.mono (Nat.le_succ _)) xo.gd hb (fun σ => passAt xo.takes σ) (mt_eval (attr_base rfl _ _ _) rfl hl)).imp fun σ H Q ⟨g, env, S, sr, p⟩ => ?_
  obtain ⟨v, e1, a, dx, fv, ⟨e2, e3⟩, e4, g', env', S', sr', p'⟩ := mt_read (fs := fun _ S => .ok [] S) M.len rfl sr p
  exact ⟨v, e1, a, dx, fv, ⟨e2, e3⟩, e4, p' [] H g' sr'.bs (Fr.refl _ _) .nil⟩
end
section
variable {K : PySem.W.Frag} {ca : Nat → Addr} {g : Gh} {H : Hp} {S : Sto}
def Gh.inst (g : Gh) (a dx : Addr) : Gh := { g with A := g.A ++ [[a, dx]] }
theorem inst_fp {a dx b : Addr} : (g.inst a dx).fp b ↔ g.fp b ∨ b = a ∨ b = dx := by
  unfold Gh.fp Gh.inst
  constructor
  · rintro ⟨l, hl, hb⟩
    rcases List.mem_append.mp hl with z | z
    · exact .inl ⟨l, z, hb⟩
    · rw [List.mem_singleton.mp z] at hb
      simp only [List.mem_cons, List.not_mem_nil, or_false] at hb
      exact .inr hb
  · rintro (⟨l, hl, hb⟩ | hb)
    · exact ⟨l, List.mem_append_left _ hl, hb⟩
    · exact ⟨[a, dx], List.mem_append_right _ (List.mem_singleton.mpr rfl), by simpa using hb⟩
theorem inst_le {a dx : Addr} (b : Bs K ca g S H) : GhLe g (g.inst a dx) := ⟨Same.refl _, fun n x h => by
  unfold Gh.at_ at h ⊢
  cases q : g.A[n]? with
  | none =>
    rw [q] at h
    cases h
  | some l =>
    rw [q] at h
    show ((g.A ++ [[a, dx]])[n]?).bind _ = _
    rw [List.getElem?_append_left (List.getElem?_eq_some_iff.mp q).1, q]
    exact h⟩
theorem inst_same {a dx : Addr} {C : Addr} (h1 : H a = none) (h2 : H dx = none) (ne : dx ≠ a) : Same H (upd (upd H dx (.own a)) a (.ins C dx [])) := fun b y e => by
  rw [upd_ne (ne_of_none e h1), upd_ne (ne_of_none e h2)]
  exact e
theorem bs_inst {a dx : Addr} {c : Nat} (b : Bs K ca g S H) (h1 : H a = none) (h2 : H dx = none) (ne : dx ≠ a) : Bs K ca (g.inst a dx) (S ++ [.ins c []]) (upd (upd H dx (.own a)) a (.ins (ca c) dx [])) where
  sub := b.sub.trans (inst_same h1 h2 ne)
  off := fun d h => by
    rcases inst_fp.mp h with z | z | z
    · exact b.off d z
    · rw [z]
      exact Gh.G_none b.sub h1
    · rw [z]
      exact Gh.G_none b.sub h2
  len := by
    show (g.A ++ _).length = _
    rw [List.length_append, List.length_append, b.len]
    rfl
  cell := fun n as cc q1 q2 => by
    have q1 : (g.A ++ [[a, dx]])[n]? = some as := q1
    by_cases lt : n < g.A.length
    · rw [List.getElem?_append_left lt] at q1
      rw [List.getElem?_append_left (by rw [← b.len]; exact lt)] at q2
      refine (b.cell n as cc q1 q2).mono (inst_le b) fun d hd => ?_
      obtain ⟨x, e⟩ := (b.cell n as cc q1 q2).there d hd
      rw [e, inst_same h1 h2 ne _ _ e]
    · have : n = g.A.length := by
        have := (List.getElem?_eq_some_iff.mp q1).1
        rw [List.length_append] at this
        have : ([[a, dx]] : List (List Addr)).length = 1 := rfl
        omega
      subst this
      rw [List.getElem?_append_right (Nat.le_refl _), Nat.sub_self] at q1
      rw [b.len, List.getElem?_append_right (Nat.le_refl _), Nat.sub_self] at q2
      cases q1
      cases q2
      exact ⟨a, dx, [], [], rfl, upd_same, by rw [upd_ne ne, upd_same], .nil⟩
  nd := by
    show (g.A ++ [[a, dx]]).flatten.Nodup
    rw [List.flatten_append]
    refine List.nodup_append.mpr ⟨b.nd, by simpa using fun z : a = dx => ne z.symm, fun x hx y hy e => ?_⟩
    obtain ⟨l, hl, hxl⟩ := List.mem_flatten.mp hx
    have fx : g.fp x := ⟨l, hl, hxl⟩
    have : y = a ∨ y = dx := by simpa using hy
    obtain ⟨o, ho⟩ := Gh.fp_there b fx
    rcases this with z | z
    · rw [e, z, h1] at ho
      cases ho
    · rw [e, z, h2] at ho
      cases ho
theorem fr_inst {a dx C : Addr} (b : Bs K ca g S H) (h1 : H a = none) (h2 : H dx = none) (ne : dx ≠ a) : Fr g H (g.inst a dx) (upd (upd H dx (.own a)) a (.ins C dx [])) where
  le := inst_le b
  keep := fun d x e _ => inst_same h1 h2 ne _ _ e
  dom := (Fr.grow (g := g) (inst_same (C := C) h1 h2 ne)).dom
  fpn := fun d h => by
    rcases inst_fp.mp h with z | z | z
    · exact .inl z
    · exact .inr (by rw [z]; exact h1)
    · exact .inr (by rw [z]; exact h2)
  gn := fun _ h => .inl h
end
section
variable {X : Cx} {u : Su} {g : Gh} {env : Env} {S : Sto} {σ : L2.St} {H : Hp} {Q : VK} {c i n f : Nat} {y : Str} {p : Pg} {rc : Nat → List D → Sto → Res D} {sc : Scope} {eo ea : Expr} {es : List Expr} {np apos pos : Pos} {F : Fn} {fs : Env → Sto → Res (List D)} {k : Str × List Str}
theorem mk_read (len : ∀ ds S, rc f ds S ≠ .err → ds.length = F.np) {xs : List D} {vs : List V} (sr : u.SR g env S σ H) (rx : Reps u.K u.ca g vs xs) (pq : PostN u.K u.ca u.W false g H σ ((rc f (.obj S.length :: xs) (S ++ [.ins c []])).bind fun d S' => match d with
    | .non => .ok (.obj S.length) S'
    | _ => .err) Q) {x dx : Addr} (h1 : H x = none) (h2 : H dx = none) (ne : dx ≠ x) : spR u.K u.ca rc f F (.ref x :: vs) (upd (upd H dx (.own x)) x (.ins (u.ca c) dx [])) (fun v H2 => v = .non ∧ Q (.ref x) H2) (WE u.W σ) := by
  have b1 := bs_inst (c := c) sr.bs h1 h2 ne
  have f1 := fr_inst (C := u.ca c) sr.bs h1 h2 ne
  have at_ : (g.inst x dx).A[S.length]? = some [x, dx] := by
    show (g.A ++ [[x, dx]])[S.length]? = _
    rw [← sr.bs.len, List.getElem?_append_right (Nat.le_refl _), Nat.sub_self]
    rfl
  refine ⟨g.inst x dx, S ++ [.ins c []], .obj S.length :: xs, b1, .cons (obj_rep at_) (rx.mono f1.le), ?_, ?_⟩
  · rw [List.length_cons, rx.length, ← List.length_cons (a := D.obj S.length)]
    refine len _ (S ++ [.ins c []]) fun z => ?_
    rw [z] at pq
    exact pq
  · cases q : rc f (.obj S.length :: xs) (S ++ [.ins c []]) with
    | ok d S2 =>
      rw [q] at pq
      obtain rfl : d = .non := by
        cases d <;> first | rfl | exact pq.elim
      intro v H2 g2 b2 f2 nr
      have ev : v = .non := by
        cases hf : F.fresh with
        | true =>
          rw [hf] at nr
          have nr : NewD u.K u.ca (upd (upd H dx (.own x)) x (.ins (u.ca c) dx [])) g2 H2 v .non := nr
          rw [NewD.imm rfl] at nr
          cases nr
          rfl
        | false =>
          rw [hf] at nr
          have nr : Rep u.K u.ca g2 v .non := nr
          cases nr
          rfl
      exact ⟨ev, pq (.ref x) H2 g2 b2 (f1.trans f2) ((obj_rep at_).mono f2.le)⟩
    | exc e S2 =>
      rw [q] at pq
      exact fun cls d H2 g2 b2 f2 ex => pq cls d H2 g2 b2 (f1.trans f2) ex
    | err =>
      rw [q] at pq
      exact pq
theorem e_new (xo : XO X u p rc sc) (hg : Gl X k.1) (hp : plainN k.1 = true) (M : MtR X u.K u.ca rc f c (Str.ofString "__init__") F) (hk : p.cls[c]? = some k) (hn : notStar ea = true) (ha : PA X (ea :: es) (rEs u fs)) (hst : (backTo pos (starEach es X.env)).any (·.1) = false) :
    PE X (.Call (.Name k.1 np) (ea :: es) [] pos) (rN u false fun env S => (fs env S).bind fun xs S => (rc f (.obj S.length :: xs) (S ++ [.ins c []])).bind fun d S' => match d with
      | .non => .ok (.obj S.length) S'
      | _ => .err) := by
  obtain ⟨kk, fa, fd, ps, F1, rm, hm, hb, mk⟩ := M.ok
  have cl := xo.cl c k hk
  exact (pe_mkG (mk rfl) F1 rm xo.gd hg cl.1 hb (fun σ => passAt xo.takes σ) ha (plain_of hp).1 (star_cons hn es X.env) hst).imp fun σ H Q ⟨g, env, S, sr, p⟩ => bindEs sr p fun xs vs S1 g1 H1 s1 f1 rx p1 x dx h1 h2 ne => mk_read M.len s1 rx p1 h1 h2 ne
theorem e_new0 (xo : XO X u p rc sc) (hg : Gl X k.1) (hp : plainN k.1 = true) (M : MtR X u.K u.ca rc f c (Str.ofString "__init__") F) (hk : p.cls[c]? = some k) :
    PE X (.Call (.Name k.1 np) [] [] pos) (rN u false fun env S => (Res.ok [] S).bind fun xs S => (rc f (.obj S.length :: xs) (S ++ [.ins c []])).bind fun d S' => match d with
      | .non => .ok (.obj S.length) S'
      | _ => .err) := by
  obtain ⟨kk, fa, fd, ps, F1, rm, hm, hb, mk⟩ := M.ok
  have cl := xo.cl c k hk
  exact (pe_mkG0 (mk rfl) F1 rm xo.gd hg cl.1 hb (fun σ => passAt xo.takes σ) (plain_of hp).1).imp fun σ H Q ⟨g, env, S, sr, p⟩ x dx h1 h2 ne => mk_read M.len sr .nil p h1 h2 ne
end
section
variable {X : Cx} {u : Su} {g : Gh} {env : Env} {S : Sto} {σ : L2.St} {H : Hp} {Q : VK} {y : Str} {ea eb ei : Expr} {np np2 pos pos2 apos : Pos} {f1 f2 : Env → Sto → Res D} {es : List (Str × Int)} {a : Addr}
theorem in_noMark {x : Str} {p : Pos} : behindInMarks .In (.Name x p) = false := rfl
theorem e_din (hK : u.K = X.K) (hg : Gl X y) (hp : plainN y = true) (hm : X.mg y = some (.ref a)) (D : KD X.K X.w a es) (ha : PE X ea (rP u f1)) (m : Md) : Ok X u m false (fun env S => (f1 env S).bind fun x S => lift (evDin es x) S) (.Compare ea [.In] [.Name y np] pos) := by
  obtain ⟨ds, n, D1, D2⟩ := D
  have q : PE X (.Name y np) (tC (.ref a)) := pe_glob hg hm rfl (plain_of hp).1
  refine ok_cmp (pe_cmpR (op_in_kd D1) ha q in_noMark) (pt_cmpR (op_in_kd D1) ha q in_noMark) (fun σ H Q ⟨g, env, S, sr, p⟩ => bindP sr p fun x v S1 g1 H1 s1 _ rx p1 => ?_) fun env S d S' h => ?_
  · obtain ⟨z, rfl⟩ : ∃ z, x = .str z := by
      cases x <;> first | exact p1.elim | exact ⟨_, rfl⟩
    have ev := rx.str_inv.1
    have p1 : PostN u.K u.ca u.W false g1 H1 σ (.ok (.bl (es.lookup z).isSome) S1) Q := p1
    rcases D2 z with ⟨k, t, e1, e2⟩ | ⟨e1, e2⟩
    · refine ⟨z, _, ev, rfl, e2, ?_⟩
      rw [e1] at p1
      exact p1.here s1 (.bl _) rfl
    · refine ⟨z, _, ev, rfl, e2, ?_⟩
      rw [e1] at p1
      exact p1.here s1 (.bl _) rfl
  · cases q1 : f1 env S with
    | ok x S1 =>
      rw [q1] at h
      cases x <;> first | cases h | skip
      exact ⟨_, rfl⟩
    | exc x S1 =>
      rw [q1] at h
      cases h
    | err =>
      rw [q1] at h
      cases h
theorem e_dix (hK : u.K = X.K) (hg : Gl X y) (hp : plainN y = true) (hm : X.mg y = some (.ref a)) (D : KD X.K X.w a es) (hs : PlainIx ei) (ha : PE X ei (rP u f1)) : PE X (.Subscript (.Name y np) ei pos) (rN u false fun env S => (f1 env S).bind fun x S => lift (evDix es x) S) := by
  obtain ⟨ds, n, D1, D2⟩ := D
  have q : PE X (.Name y np) (tC (.ref a)) := pe_glob hg hm rfl (plain_of hp).1
  refine (pe_ix (pos := pos) ix_kdict q ha hs).imp fun σ H Q ⟨g, env, S, sr, p⟩ => bindP sr p fun x v S1 g1 H1 s1 _ rx p1 => ?_
  obtain ⟨z, rfl⟩ : ∃ z, x = .str z := by
    cases x <;> first | exact p1.elim | exact ⟨_, rfl⟩
  have ev := rx.str_inv.1
  have p1 : PostN u.K u.ca u.W false g1 H1 σ (lift ((es.lookup z).map .int) S1) Q := p1
  rcases D2 z with ⟨k, t, e1, e2⟩ | ⟨e1, e2⟩
  · rw [e1] at p1
    exact ⟨a, z, .int k, rfl, ev, ⟨ds, n, .int k t, D1.at_, D1.lit, e2, ⟨t, rfl⟩⟩, PostN.here s1 p1 (.int _) rfl⟩
  · rw [e1] at p1
    exact p1.elim
/-- D.get(e, f) of such a dict -/
def tKget (a : Addr) (K : PySem.W.Frag) (te tf : TE) : TE := fun σ H Q => te σ H fun x H1 => tf σ H1 fun v H2 => ∃ z r, x = .str z ∧ PySem.W.nsIn K a z = some r ∧ (match r with
  | some u => ∃ i t, u = .int i t ∧ Q (.int i) H2
  | none => Q v H2)
theorem pe_kget {ds : Array DictEntry} {n : Nat} {te tf : TE} {o : Expr} (D : KDict X.K X.w a ds n) (ho : PE X o (tC (.ref a))) (he : PE X ea te) (hf : PE X eb tf) (m : M2 X o "get" apos ea eb pos) : PE X (.Call (.Attribute o "get" apos) [ea, eb] [] pos) (tKget a X.K te tf) := by
  refine ⟨fun pins s σ H Q I pr => ?_⟩
  refine wpAny_Call_method m.base m.few m.line PySem.F.plainAttrs_dict PySem.F.slot_dict_get PySem.F.type_dict_get (wpAny_mono (ho.run pins s σ H (fun x H1 => x = .ref a ∧ H1 = H) I ⟨rfl, rfl⟩) (fun v s1 hh => ?_) fun _ _ z => z)
  obtain ⟨x, H1, I1, rx, rfl, rfl⟩ := hh
  obtain rfl : v = Value.ref a := rx
  have ty := kd_type D I1
  refine ⟨ty, fun b e => ?_, ?_⟩
  · cases e
    exact ⟨_, I1.kIn _ _ D.at_, rfl⟩
  · rw [m.trees]
    refine Calls.callWith_builtin rfl (Calls.evalArgs_plain (Calls.spliced_cons (wpAny_mono (he.run pins s1 σ _ _ I1 pr) (fun iv s2 hh => ?_) fun _ _ z => z)))
    obtain ⟨x, H2, I2, r2, q2⟩ := hh
    refine Calls.spliced_cons (wpAny_mono (hf.run pins s2 σ H2 _ I2 q2) (fun fv s3 hh => ?_) fun _ _ z => z)
    obtain ⟨v, H3, I3, r3, z, r, rfl, e, q3⟩ := hh
    obtain ⟨t, rfl⟩ := r2
    refine Calls.spliced_nil ?_
    have mp := PySem.W.mapOf_K (prog := X.prog) (w := X.w) I3.kIn D.at_ D.lit
    refine call_meetsIn PySem.F.slot_dict_get (kd_type D I3) PySem.F.entry_dict_get (PySem.F.args_dict_get_3 _ _ _) (meets_dict_get_default (strKind X.prog X.w) a (strKind_is X.prog X.w z t) D.low fv) ⟨_, mp, ?_⟩
    rw [PySem.W.find_K D.at_ e]
    cases r with
    | none => exact ⟨v, H3, I3.tok _, r3, q3⟩
    | some u =>
      obtain ⟨i, t2, rfl, q4⟩ := q3
      exact ⟨.int i, H3, I3.tok _, ⟨t2, rfl⟩, q4⟩
theorem e_dget (hK : u.K = X.K) (hg : Gl X y) (hp : plainN y = true) (hm : X.mg y = some (.ref a)) (D : KD X.K X.w a es) (h1 : notStar ea = true) (h2 : notStar eb = true) (hl : (apos.endLine == pos.line) = true) (ha : PE X ea (rP u f1)) (hb : PE X eb (rE u f2)) :
    PE X (.Call (.Attribute (.Name y np) "get" apos) [ea, eb] [] pos) (rN u false fun env S => (f1 env S).bind fun x S => (f2 env S).bind fun y S => lift (evDget es x y) S) := by
  obtain ⟨ds, n, D1, D2⟩ := D
  have q : PE X (.Name y np) (tC (.ref a)) := pe_glob hg hm rfl (plain_of hp).1
  refine (pe_kget D1 q ha hb ⟨attr_base rfl _ _ _, ?_, hl, ?_⟩).imp fun σ H Q ⟨g, env, S, sr, p⟩ => bindP sr p fun x v S1 g1 H1 s1 _ rx p1 => bindE s1 p1 fun y w S2 g2 H2 s2 fr2 ry p2 => ?_
  · rw [star_cons h1, star_cons h2]
    rfl
  · rw [star_cons h1, star_cons h2]
    rfl
  · obtain ⟨z, rfl⟩ : ∃ z, x = .str z := by
      cases x <;> first | exact p2.elim | exact ⟨_, rfl⟩
    have ev := rx.str_inv.1
    have p2 : PostN u.K u.ca u.W false g2 H2 σ (.ok (match es.lookup z with
      | some v => .int v
      | none => y) S2) Q := p2
    rcases D2 z with ⟨k, t, e1, e2⟩ | ⟨e1, e2⟩
    · rw [e1] at p2
      exact ⟨z, _, ev, e2, k, t, rfl, PostN.here s2 p2 (.int _) rfl⟩
    · rw [e1] at p2
      exact ⟨z, _, ev, e2, PostN.there s2 p2 ry⟩
theorem e_lset (hK : u.K = X.K) (hc : X.calm = true) (hm : ∀ x ∈ biNames, X.mg x = none) (hg : Gl X "len") (hg2 : Gl X "set") (hn : notStar ea = true) (ha : PE X ea (rP u f1)) :
    PE X (.Call (.Name "len" np) [.Call (.Name "set" np2) [ea] [] pos2] [] pos) (rN u false fun env S => (f1 env S).bind fun x S => lift (evLset x) S) := by
  refine (VS.pe_lset (p := np) (p2 := np2) (q := pos2) (pos := pos) hg (hm _ (by decide +kernel)) hg2 (hm _ (by decide +kernel)) ha hc (star_cons hn _ _)).imp fun σ H Q ⟨g, env, S, sr, p⟩ => bindP sr p fun x v S1 g1 H1 s1 _ rx p1 => ?_
  obtain ⟨xs, rfl⟩ : ∃ xs, x = .lst xs := by
    cases x <;> first | exact p1.elim | exact ⟨_, rfl⟩
  have pq : PostN u.K u.ca u.W false g1 H1 σ (lift (match strs? xs with
    | some ys => if ys.length ≤ 4000 then some (.int (VS.dd ys).length) else none
    | none => none) S1) Q := p1
  cases e : strs? xs with
  | none =>
    rw [e] at pq
    exact pq.elim
  | some ys =>
    rw [e] at pq
    dsimp only at pq
    split at pq
    · rename_i le
      obtain ⟨b, vs, rfl, k1, z1, r1⟩ := rx.lst_inv s1.bs.sub
      have exs := strs_inv e
      subst exs
      obtain ⟨rfl, _⟩ := Reps.strs r1
      rw [← hK]
      exact ⟨b, ys, rfl, .inl (.inl k1), le, PostN.here s1 pq (.int _) rfl⟩
    · exact pq.elim
end
end VE

set_option Elab.async false
set_option linter.all false
set_option maxRecDepth 100000
set_option maxHeartbeats 4000000
/-! VE, part 10: every checked expression is read by the evaluator. -/
namespace VE
open PySem PySem.Spec PyProof.Rows L2

def tgOk : T → Expr → Prop
  | .zip _ _, t => isTup t = true
  | .enum _, t => isTup t = true
  | _, _ => True
theorem itOk_inv {t : T} {tg e : Expr} (h : itOk t tg e = true) : tgOk t tg := by
  cases t <;> first | exact h | trivial
theorem set_free {t : T} {tg e : Expr} {p : Pg} {N : List Str} {o : List Bool} {sc : Scope} (h : itOk t tg e = true) (hc : chk p N o t .it sc e = true) (env : PySem.Env) (x : Value) : foldedSetIterable e env x = pure x := by
  have key : notSet e = true := by
    cases t <;> first | exact h | (unfold chk at hc; split at hc <;> first | rfl | cases hc)
  unfold foldedSetIterable
  split
  · cases key
  · rfl
/-- what is told of an expression in each mode -/
def OkI (X : Cx) (u : Su) (t : T) (m : Md) (fr : Bool) (f : Env → Sto → Res D) (e : Expr) : Prop := match m with
  | .it => ∀ tg, tgOk t tg → PI X tg e (rI u fun env S => (f env S).bind fun x S => lift (items x) S)
  | .use => Ok X u .use fr f e
  | .peek => Ok X u .peek fr f e
  | .test => Ok X u .test fr f e
def frT (p : Pg) : T → Bool
  | .bin _ _ _ => true
  | .lst _ => true
  | .comp _ _ _ _ => true
  | .sl _ _ _ => true
  | .rev _ => true
  | .tzip _ _ => true
  | .sset _ _ => true
  | .flen _ _ _ => true
  | .ftup _ _ _ => true
  | .fcomp _ _ _ _ _ => true
  | .mcall _ f _ _ _ => match p.fns[f]? with
    | some F => F.fresh
    | none => false
  | .bad => true
  | .bi _ _ => true
  | .me _ _ _ => true
  | .call f _ => match p.fns[f]? with
    | some F => F.fresh
    | none => false
  | _ => false
theorem oki {X : Cx} {u : Su} {t : T} {m : Md} {fr : Bool} {f : Env → Sto → Res D} {e : Expr} (hK : u.K = X.K) (h : ∀ m, Ok X u m fr f e) : OkI X u t m fr f e := by
  cases m with
  | use => exact h .use
  | peek => exact h .peek
  | test => exact h .test
  | it => exact fun tg _ => i_plain hK (PE.frozen (h .it))
section
variable {p : Pg} {rc : Nat → List D → Sto → Res D}
theorem visOf {X : Cx} {u : Su} {sc : Scope} {n : Str} (xo : XO X u p rc sc) (h : visB sc n = true) : Vis X.env.scope n := by
  rw [xo.scope]
  exact vis_of h
theorem starBack {X : Cx} {pos : Pos} : ∀ {es : List Expr} {ts : List T} {m : Md} {sc : Scope} {N : List Str} {o : List Bool}, chks p N o ts m sc es = true → (backTo pos (starEach es X.env)).any (·.1) = false
  | [], _, _, _, _, _, _ => rfl
  | e :: es, [], _, _, _, _, h => by cases h
  | e :: es, t :: ts, m, sc, N, o, h => by
    unfold chks at h
    simp only [Bool.and_eq_true] at h
    rw [star_cons h.1]
    have ih := starBack (X := X) (pos := pos) h.2.2
    unfold backTo at ih ⊢
    rw [List.map_cons, List.any_cons]
    simpa using ih
theorem evEs_len (gl : List D) : ∀ (ts : List T) {env : Env} {S S' : Sto} {ds : List D}, evEs gl rc ts env S = .ok ds S' → ds.length = ts.length
  | [], env, S, S', ds, h => by
    cases h
    rfl
  | t :: ts, env, S, S', ds, h => by
    unfold evEs at h
    cases q : evE gl rc t env S with
    | exc x S1 =>
      rw [q] at h
      cases h
    | err =>
      rw [q] at h
      cases h
    | ok x S1 =>
      rw [q] at h
      simp only [Res.ok_bind] at h
      cases q2 : evEs gl rc ts env S1 with
      | exc x S1 =>
        rw [q2] at h
        cases h
      | err =>
        rw [q2] at h
        cases h
      | ok xs S2 =>
        rw [q2] at h
        cases h
        rw [List.length_cons, List.length_cons, evEs_len gl ts q2]
theorem chks_len : ∀ {ts : List T} {m : Md} {sc : Scope} {es : List Expr} {N : List Str} {o : List Bool}, chks p N o ts m sc es = true → ts.length = es.length
  | [], m, sc, [], _, _, _ => rfl
  | [], m, sc, _ :: _, _, _, h => by cases h
  | _ :: _, m, sc, [], _, _, h => by cases h
  | t :: ts, m, sc, e :: es, _, _, h => by
    unfold chks at h
    simp only [Bool.and_eq_true] at h
    rw [List.length_cons, List.length_cons, chks_len h.2.2]
/-- the block of a comprehension -/
theorem XO.blk {X : Cx} {u : Su} {sc scope : Scope} (xo : XO X u p rc sc) (s : Shared) (H : Hp) (C : Addr) (cl : List (Str × Addr)) (fp : List Addr) : XO (X.blk s H scope (compEnvC scope cl C X.env) fp) u.blk p rc (relS scope sc) where
  nd := xo.nd
  scope := by
    rw [← xo.scope]
    rfl
  calm := xo.calm
  un := xo.un
  gd := xo.gd
  K := xo.K
  gl := xo.gl
  bi := xo.bi
  fn := fun f x h h' => by
    obtain ⟨F, h1, h2⟩ := xo.fn f x h h'
    exact ⟨F, h1, h2.len, h2.ok⟩
  mt := fun f c m h => by
    obtain ⟨F, h1, h2⟩ := xo.mt f c m h
    exact ⟨F, h1, h2.len, h2.ok⟩
  cl := xo.cl
  dt := xo.dt
  takes := takes0
theorem lookup_keep {f : Str × NameKind → Str × NameKind} {x : Str} {k : NameKind} (h1 : ∀ y, (f y).1 = y.1) (h2 : ∀ n, f (n, k) = (n, k)) : ∀ {names : List (Str × NameKind)}, names.lookup x = some k → (names.map f).lookup x = some k
  | [], h => by cases h
  | y :: r, h => by
    rw [List.lookup_cons] at h
    rw [List.map_cons, List.lookup_cons, h1]
    cases e : x == y.1 with
    | true =>
      rw [e] at h
      simp only at h ⊢
      cases h
      have := h2 y.1
      rw [show f y = y from this]
    | false =>
      rw [e] at h
      simp only at h ⊢
      exact lookup_keep h1 h2 h
theorem lookup_relS {sc scope : Scope} {x : Str} {k : NameKind} (hk : k ≠ .free) (h : scope.names.lookup x = some k) : (relS scope sc).names.lookup x = some k := by
  refine lookup_keep (fun y => ?_) (fun n => ?_) h
  · dsimp only
    split <;> rfl
  · have e0 : (k == NameKind.free) = false := by
      cases k <;> first | rfl | exact absurd rfl hk
    dsimp only
    rw [e0]
    rfl
theorem stOk_blk {X : Cx} {u : Su} {sc scope : Scope} (xo : XO X u p rc sc) (s : Shared) (H : Hp) (C : Addr) (cl : List (Str × Addr)) (fp : List Addr) : StOk (X.blk s H scope (compEnvC scope cl C X.env) fp) (ownSt scope) where
  nd := xo.nd
  calm := xo.calm
  loc := fun x h => by
    unfold ownSt at h
    rw [Bool.or_eq_true, decide_eq_true_eq, decide_eq_true_eq] at h
    rcases h with h | h
    · have q := lookup_relS (sc := X.env.scope) (by decide) h
      exact ⟨.inl q, .inr q⟩
    · have q := lookup_relS (sc := X.env.scope) (by decide) h
      refine ⟨.inr q, .inl ?_⟩
      show (scope.names.lookup x == some NameKind.cell) = true
      rw [h]
      rfl
end
section
variable {p : Pg} {rc : Nat → List D → Sto → Res D}
def Sub (p : Pg) (rc : Nat → List D → Sto → Res D) (t : T) : Prop := ∀ {X : Cx} {u : Su} {sc : Scope}, XO X u p rc sc → ∀ (m : Md) {e : Expr}, chk p X.N u.o t m sc e = true → OkI X u t m (frT p t) (evE p.gl rc t) e
theorem bool_inv {a b : Bool} (h : (a == b) = true) : a = b := by simpa using h
/-! one kind each -/
theorem s_non : Sub p rc .non := fun xo m e h => by
  unfold chk at h
  split at h
  · exact oki xo.K fun m => ok_of xo.K (e_const pe_non (fun _ => .non) rfl) rfl
  · cases h
theorem s_bl (b : Bool) : Sub p rc (.bl b) := fun xo m e h => by
  unfold chk at h
  split at h
  · rw [bool_inv h]
    exact oki xo.K fun m => ok_of xo.K (e_const pe_bl (fun _ => .bl _) rfl) rfl
  · cases h
theorem s_int (b : Int) : Sub p rc (.int b) := fun xo m e h => by
  unfold chk at h
  split at h
  · rw [of_decide_eq_true h]
    exact oki xo.K fun m => ok_of xo.K (e_const pe_int (fun _ => .int _) rfl) rfl
  · cases h
theorem s_str (b : Str) : Sub p rc (.str b) := fun xo m e h => by
  unfold chk at h
  split at h
  · rw [Bool.and_eq_true, decide_eq_true_eq] at h
    rw [← h.1]
    exact oki xo.K fun m => ok_of xo.K (e_const pe_str (fun _ => .str _ (strOkB_ok h.2)) rfl) rfl
  · cases h
theorem s_v (i : Nat) : Sub p rc (.v i) := fun {X u sc} xo m e h => by
  unfold chk at h
  split at h
  · simp only [Bool.and_eq_true, Bool.or_eq_true, decide_eq_true_eq, Bool.not_eq_true'] at h
    obtain ⟨h1, h2, h3, h4⟩ := h
    cases m with
    | peek => exact e_var_peek h1 (visOf xo h2) h3
    | test => exact pt_of xo.K (e_var_peek h1 (visOf xo h2) h3) rfl
    | use =>
      have ho : own u.o i = false := by simpa using h4
      exact e_var_use h1 (visOf xo h2) h3 ho
    | it =>
      have ho : own u.o i = false := by simpa using h4
      exact fun tg _ => i_plain xo.K (e_var_use h1 (visOf xo h2) h3 ho)
  · cases h
theorem s_g (k : Nat) : Sub p rc (.g k) := fun xo m e h => by
  unfold chk at h
  split at h
  · simp only [Bool.and_eq_true, decide_eq_true_eq] at h
    obtain ⟨h1, h2, h3⟩ := h
    obtain ⟨d, v, w, g1, g2, g3, g4, g5⟩ := xo.gl k _ h1
    have q : evE p.gl rc (.g k) = fun _ S => .ok d S := by
      funext env S
      show lift p.gl[k]? S = _
      rw [g1]
      rfl
    rw [q]
    exact oki xo.K fun m => ok_of xo.K (e_const (pe_glob (glo_of xo.scope h2) g2 g3 (plain_of h3).1) g5 g4) rfl
  · cases h
theorem s_bin (o : Op2) {a b : T} (ha : Sub p rc a) (hb : Sub p rc b) : Sub p rc (.bin o a b) := fun xo m e h => by
  unfold chk at h
  split at h
  · simp only [Bool.and_eq_true, decide_eq_true_eq] at h
    obtain ⟨rfl, h1, h2⟩ := h
    exact oki xo.K fun m => ok_of xo.K (e_bin xo.K (ha xo .peek h1) (hb xo .peek h2)) rfl
  · cases h
theorem s_neg {a : T} (ha : Sub p rc a) : Sub p rc (.neg a) := fun xo m e h => by
  unfold chk at h
  split at h
  · exact oki xo.K fun m => ok_of xo.K (e_neg (ha xo .peek h)) rfl
  · cases h
theorem s_no {a : T} (ha : Sub p rc a) : Sub p rc (.no a) := fun xo m e h => by
  unfold chk at h
  split at h
  · cases m with
    | test => exact t_no (ha xo .test h)
    | use => exact e_no xo.K (ha xo .peek h)
    | peek => exact (PE.frozen (fr := false) (e_no xo.K (ha xo .peek h))).peeked
    | it => exact fun tg _ => i_plain xo.K (e_no xo.K (ha xo .peek h))
  · cases h
theorem s_cmp (c : Cm) {a b : T} (ha : Sub p rc a) (hb : Sub p rc b) : Sub p rc (.cmp c a b) := fun xo m e h => by
  unfold chk at h
  split at h
  · simp only [Bool.and_eq_true, decide_eq_true_eq, Bool.not_eq_true'] at h
    obtain ⟨rfl, h0, h1, h2⟩ := h
    exact oki xo.K fun m => e_cmp xo.K xo.un (ha xo .peek h1) (hb xo .peek h2) h0
  · cases h
theorem s_chn (c c' : Cm) {a b d : T} (ha : Sub p rc a) (hb : Sub p rc b) (hd : Sub p rc d) : Sub p rc (.chn c c' a b d) := fun xo m e h => by
  unfold chk at h
  split at h
  · simp only [Bool.and_eq_true, decide_eq_true_eq, Bool.not_eq_true'] at h
    obtain ⟨rfl, rfl, h0, h1, h2, h3⟩ := h
    exact oki xo.K fun m => e_chn xo.K xo.un (ha xo .peek h1) (hb xo .peek h2) (hd xo .peek h3) h0
  · cases h
theorem s_isN {a : T} (ha : Sub p rc a) : Sub p rc (.isN a) := fun xo m e h => by
  unfold chk at h
  split at h
  · exact oki xo.K fun m => e_isN (ha xo .peek h)
  · cases h
theorem s_notN {a : T} (ha : Sub p rc a) : Sub p rc (.notN a) := fun xo m e h => by
  unfold chk at h
  split at h
  · exact oki xo.K fun m => e_notN (ha xo .peek h)
  · cases h
theorem s_isB {a : T} (b : Bool) (ha : Sub p rc a) : Sub p rc (.isB a b) := fun xo m e h => by
  unfold chk at h
  split at h
  · rw [Bool.and_eq_true] at h
    rw [bool_inv h.1]
    exact oki xo.K fun m => e_isB (ha xo .peek h.2)
  · cases h
theorem s_notB {a : T} (b : Bool) (ha : Sub p rc a) : Sub p rc (.notB a b) := fun xo m e h => by
  unfold chk at h
  split at h
  · rw [Bool.and_eq_true] at h
    rw [bool_inv h.1]
    exact oki xo.K fun m => e_notB (ha xo .peek h.2)
  · cases h
theorem s_ite {c a b : T} (hc : Sub p rc c) (ha : Sub p rc a) (hb : Sub p rc b) : Sub p rc (.ite c a b) := fun xo m e h => by
  unfold chk at h
  split at h
  · rename_i ec ea eb pos
    simp only [Bool.and_eq_true, decide_eq_true_eq] at h
    obtain ⟨h0, h1, h2, h3⟩ := h
    have q := e_ite (pos := pos) (hc xo .test h1) (ok_use (ha xo .use h2)) (ok_use (hb xo .use h3))
    cases m with
    | test => exact absurd rfl h0
    | use => exact q
    | peek => exact PE.peeked q
    | it => exact fun tg _ => i_plain xo.K q
  · cases h
theorem s_ix {a i : T} (ha : Sub p rc a) (hi : Sub p rc i) : Sub p rc (.ix a i) := fun xo m e h => by
  unfold chk at h
  split at h
  · simp only [Bool.and_eq_true] at h
    exact oki xo.K fun m => ok_of xo.K (e_ix xo.K h.1 (ha xo .peek h.2.1) (hi xo .peek h.2.2)) rfl
  · cases h
theorem s_bound {X : Cx} {u : Su} {sc : Scope} {lo : T} (hl : Sub p rc lo) (xo : XO X u p rc sc) {elo : Option Expr} (h : (match elo with
      | none => isNon lo
      | some x => !isNon lo && chk p X.N u.o lo .peek sc x) = true) : PO X elo (rO u fun env S => (evE p.gl rc lo env S).bind fun l S => lift (slB (isNon lo) l) S) := by
  cases elo with
  | none =>
    cases lo <;> first | cases h | skip
    exact bo_none
  | some x =>
    simp only [Bool.and_eq_true, Bool.not_eq_true'] at h
    rw [h.1]
    exact bo_some (hl xo .peek h.2)
theorem s_sl {a lo hi : T} (ha : Sub p rc a) (hl : Sub p rc lo) (hh : Sub p rc hi) : Sub p rc (.sl a lo hi) := fun xo m e h => by
  unfold chk at h
  split at h
  · simp only [Bool.and_eq_true] at h
    exact oki xo.K fun m => ok_of xo.K (e_sl xo.K (ha xo .peek h.1) (s_bound hl xo h.2.1) (s_bound hh xo h.2.2)) rfl
  · cases h
theorem s_rev {a : T} (ha : Sub p rc a) : Sub p rc (.rev a) := fun xo m e h => by
  unfold chk at h
  split at h
  · exact oki xo.K fun m => ok_of xo.K (e_rev xo.K (ha xo .peek h)) rfl
  · cases h
theorem s_isi {a : T} (t : Ty) (ha : Sub p rc a) : Sub p rc (.isi a t) := fun xo m e h => by
  unfold chk at h
  split at h
  · simp only [Bool.and_eq_true, decide_eq_true_eq] at h
    obtain ⟨rfl, h1, rfl, h2, h3, h4⟩ := h
    exact oki xo.K fun m => ok_of xo.K (e_isi xo.K xo.bi (glo_of xo.scope h1) (glo_of xo.scope h2) h3 (ha xo .peek h4)) rfl
  · cases h
/-! lists -/
def Subs (p : Pg) (rc : Nat → List D → Sto → Res D) (ts : List T) : Prop := ∀ t ∈ ts, Sub p rc t
theorem Subs.use : ∀ {ts : List T}, Subs p rc ts → ∀ {X : Cx} {u : Su} {sc : Scope}, XO X u p rc sc → ∀ {es : List Expr}, chks p X.N u.o ts .use sc es = true → PA X es (rEs u (evEs p.gl rc ts))
  | [], _, X, u, sc, xo, [], _ => l_nilE
  | [], _, _, _, _, _, _ :: _, h => by cases h
  | _ :: _, _, _, _, _, _, [], h => by cases h
  | t :: ts, hs, X, u, sc, xo, e :: es, h => by
    unfold chks at h
    simp only [Bool.and_eq_true] at h
    exact l_consE h.1 (ok_use (hs t List.mem_cons_self xo .use h.2.1)) (Subs.use (fun t ht => hs t (List.mem_cons_of_mem _ ht)) xo h.2.2)
theorem Subs.peek : ∀ {ts : List T}, Subs p rc ts → ∀ {X : Cx} {u : Su} {sc : Scope}, XO X u p rc sc → ∀ {es : List Expr}, chks p X.N u.o ts .peek sc es = true → PA X es (rPs u (evEs p.gl rc ts))
  | [], _, X, u, sc, xo, [], _ => l_nilP
  | [], _, _, _, _, _, _ :: _, h => by cases h
  | _ :: _, _, _, _, _, _, [], h => by cases h
  | t :: ts, hs, X, u, sc, xo, e :: es, h => by
    unfold chks at h
    simp only [Bool.and_eq_true] at h
    exact l_consP h.1 (hs t List.mem_cons_self xo .peek h.2.1) (Subs.peek (fun t ht => hs t (List.mem_cons_of_mem _ ht)) xo h.2.2)
theorem Subs.an : ∀ {ts : List T}, Subs p rc ts → ∀ {X : Cx} {u : Su} {sc : Scope}, XO X u p rc sc → ∀ {es : List Expr} {pos : Pos}, ts.length ≠ 0 → chks p X.N u.o ts .use sc es = true → PE X (.BoolOp .And es pos) (rE u (evAn p.gl rc ts))
  | [], _, X, u, sc, xo, _, _, z, _ => absurd rfl z
  | _ :: _, _, _, _, _, _, [], _, _, h => by cases h
  | [t], hs, X, u, sc, xo, [e], _, _, h => by
    unfold chks at h
    simp only [Bool.and_eq_true] at h
    exact pe_one (ok_use (hs t List.mem_cons_self xo .use h.2.1))
  | [t], hs, X, u, sc, xo, e :: e' :: es, _, _, h => by
    unfold chks at h
    simp only [Bool.and_eq_true] at h
    cases h.2.2
  | t :: t' :: ts, hs, X, u, sc, xo, [e], _, _, h => by
    unfold chks at h
    simp only [Bool.and_eq_true] at h
    cases h.2.2
  | t :: t' :: ts, hs, X, u, sc, xo, e :: e' :: es, _, _, h => by
    unfold chks at h
    simp only [Bool.and_eq_true] at h
    exact e_and (ok_use (hs t List.mem_cons_self xo .use h.2.1)) (Subs.an (ts := t' :: ts) (fun t ht => hs t (List.mem_cons_of_mem _ ht)) xo (by simp) h.2.2)
theorem Subs.orr : ∀ {ts : List T}, Subs p rc ts → ∀ {X : Cx} {u : Su} {sc : Scope}, XO X u p rc sc → ∀ {es : List Expr} {pos : Pos}, ts.length ≠ 0 → chks p X.N u.o ts .use sc es = true → PE X (.BoolOp .Or es pos) (rE u (evOr p.gl rc ts))
  | [], _, X, u, sc, xo, _, _, z, _ => absurd rfl z
  | _ :: _, _, _, _, _, _, [], _, _, h => by cases h
  | [t], hs, X, u, sc, xo, [e], _, _, h => by
    unfold chks at h
    simp only [Bool.and_eq_true] at h
    exact pe_one (ok_use (hs t List.mem_cons_self xo .use h.2.1))
  | [t], hs, X, u, sc, xo, e :: e' :: es, _, _, h => by
    unfold chks at h
    simp only [Bool.and_eq_true] at h
    cases h.2.2
  | t :: t' :: ts, hs, X, u, sc, xo, [e], _, _, h => by
    unfold chks at h
    simp only [Bool.and_eq_true] at h
    cases h.2.2
  | t :: t' :: ts, hs, X, u, sc, xo, e :: e' :: es, _, _, h => by
    unfold chks at h
    simp only [Bool.and_eq_true] at h
    exact e_or (ok_use (hs t List.mem_cons_self xo .use h.2.1)) (Subs.orr (ts := t' :: ts) (fun t ht => hs t (List.mem_cons_of_mem _ ht)) xo (by simp) h.2.2)
theorem Subs.anT : ∀ {ts : List T}, Subs p rc ts → ∀ {X : Cx} {u : Su} {sc : Scope}, XO X u p rc sc → ∀ {es : List Expr} {pos : Pos}, ts.length ≠ 0 → chks p X.N u.o ts .test sc es = true → PW X (.BoolOp .And es pos) (rT u fun env S => (evAn p.gl rc ts env S).bind tru)
  | [], _, X, u, sc, xo, _, _, z, _ => absurd rfl z
  | _ :: _, _, _, _, _, _, [], _, _, h => by cases h
  | [t], hs, X, u, sc, xo, [e], _, _, h => by
    unfold chks at h
    simp only [Bool.and_eq_true] at h
    exact pw_and1 (hs t List.mem_cons_self xo .test h.2.1)
  | [t], hs, X, u, sc, xo, e :: e' :: es, _, _, h => by
    unfold chks at h
    simp only [Bool.and_eq_true] at h
    cases h.2.2
  | t :: t' :: ts, hs, X, u, sc, xo, [e], _, _, h => by
    unfold chks at h
    simp only [Bool.and_eq_true] at h
    cases h.2.2
  | t :: t' :: ts, hs, X, u, sc, xo, e :: e' :: es, _, _, h => by
    unfold chks at h
    simp only [Bool.and_eq_true] at h
    exact t_and (hs t List.mem_cons_self xo .test h.2.1) (Subs.anT (ts := t' :: ts) (fun t ht => hs t (List.mem_cons_of_mem _ ht)) xo (by simp) h.2.2)
theorem Subs.orT : ∀ {ts : List T}, Subs p rc ts → ∀ {X : Cx} {u : Su} {sc : Scope}, XO X u p rc sc → ∀ {es : List Expr} {pos : Pos}, ts.length ≠ 0 → chks p X.N u.o ts .test sc es = true → PW X (.BoolOp .Or es pos) (rT u fun env S => (evOr p.gl rc ts env S).bind tru)
  | [], _, X, u, sc, xo, _, _, z, _ => absurd rfl z
  | _ :: _, _, _, _, _, _, [], _, _, h => by cases h
  | [t], hs, X, u, sc, xo, [e], _, _, h => by
    unfold chks at h
    simp only [Bool.and_eq_true] at h
    exact pw_or1 (hs t List.mem_cons_self xo .test h.2.1)
  | [t], hs, X, u, sc, xo, e :: e' :: es, _, _, h => by
    unfold chks at h
    simp only [Bool.and_eq_true] at h
    cases h.2.2
  | t :: t' :: ts, hs, X, u, sc, xo, [e], _, _, h => by
    unfold chks at h
    simp only [Bool.and_eq_true] at h
    cases h.2.2
  | t :: t' :: ts, hs, X, u, sc, xo, e :: e' :: es, _, _, h => by
    unfold chks at h
    simp only [Bool.and_eq_true] at h
    exact t_or (hs t List.mem_cons_self xo .test h.2.1) (Subs.orT (ts := t' :: ts) (fun t ht => hs t (List.mem_cons_of_mem _ ht)) xo (by simp) h.2.2)
theorem Subs.cs {ts : List T} (hs : Subs p rc ts) {X : Cx} {u : Su} {sc : Scope} (xo : XO X u p rc sc) {es : List Expr} (hl : ts.length ≤ 1) (h : chks p X.N u.o ts .test sc es = true) : PTs X es (rT u (evCs p.gl rc ts)) := by
  cases ts with
  | nil =>
    cases es with
    | nil => exact ⟨fun pins s σ H Q I ⟨g, env, S, sr, q⟩ => pts_nil.run pins s σ H Q I (q H g sr.bs (Fr.refl g H))⟩
    | cons _ _ => cases h
  | cons t ts =>
    cases ts with
    | cons _ _ =>
      exfalso
      simp only [List.length_cons] at hl
      omega
    | nil =>
      cases es with
      | nil => cases h
      | cons e es =>
        unfold chks at h
        simp only [Bool.and_eq_true] at h
        cases es with
        | cons _ _ => cases h.2.2
        | nil =>
          refine ⟨fun pins s σ H Q I ⟨g, env, S, sr, q⟩ => (pts_one (hs t List.mem_cons_self xo .test h.2.1)).run pins s σ H Q I ⟨g, env, S, sr, ?_⟩⟩
          dsimp only
          have e0 : evCs p.gl rc [t] env S = (evE p.gl rc t env S).bind fun x S => (tru x S).bind fun k S => if k then .ok true S else .ok false S := rfl
          rw [e0] at q
          cases q1 : evE p.gl rc t env S with
          | exc x S1 =>
            rw [q1] at q
            exact q
          | err =>
            rw [q1] at q
            exact q
          | ok x S1 =>
            rw [q1] at q
            simp only [Res.ok_bind] at q ⊢
            cases q2 : tru x S1 with
            | exc x S1 =>
              rw [q2] at q
              exact q
            | err =>
              rw [q2] at q
              exact q
            | ok k S2 =>
              rw [q2] at q
              cases k <;> exact q
theorem s_an {ts : List T} (hs : Subs p rc ts) : Sub p rc (.an ts) := fun xo m e h => by
  unfold chk at h
  split at h
  · simp only [Bool.and_eq_true, decide_eq_true_eq] at h
    cases m with
    | test => exact (hs.anT xo h.1 h.2).pt
    | use => exact hs.an xo h.1 h.2
    | peek => exact PE.peeked (hs.an xo h.1 h.2)
    | it => exact fun tg _ => i_plain xo.K (hs.an xo h.1 h.2)
  · cases h
theorem s_or {ts : List T} (hs : Subs p rc ts) : Sub p rc (.orr ts) := fun xo m e h => by
  unfold chk at h
  split at h
  · simp only [Bool.and_eq_true, decide_eq_true_eq] at h
    cases m with
    | test => exact (hs.orT xo h.1 h.2).pt
    | use => exact hs.orr xo h.1 h.2
    | peek => exact PE.peeked (hs.orr xo h.1 h.2)
    | it => exact fun tg _ => i_plain xo.K (hs.orr xo h.1 h.2)
  · cases h
theorem s_tup {ts : List T} (hs : Subs p rc ts) : Sub p rc (.tup ts) := fun xo m e h => by
  unfold chk at h
  split at h
  · simp only [Bool.and_eq_true, decide_eq_true_eq] at h
    exact oki xo.K fun m => ok_of xo.K (e_tup (fun env S ds S' q => by rw [evEs_len _ _ q]; exact h.1) (hs.use xo h.2)) rfl
  · cases h
theorem s_lst {ts : List T} (hs : Subs p rc ts) : Sub p rc (.lst ts) := fun xo m e h => by
  unfold chk at h
  split at h
  · simp only [Bool.and_eq_true, decide_eq_true_eq] at h
    exact oki xo.K fun m => ok_of xo.K (e_lst (fun env S ds S' q => by rw [evEs_len _ _ q]; exact h.1) (hs.use xo h.2)) rfl
  · cases h
theorem s_box {ts : List T} (hs : Subs p rc ts) : Sub p rc (.box ts) := fun xo m e h => by
  unfold chk at h
  split at h
  · simp only [Bool.and_eq_true, decide_eq_true_eq] at h
    exact oki xo.K fun m => ok_of xo.K (e_box (fun env S ds S' q => by rw [evEs_len _ _ q]; exact h.1) (hs.use xo h.2)) rfl
  · cases h
theorem s_call (f : Nat) {ts : List T} (hs : Subs p rc ts) : Sub p rc (.call f ts) := fun xo m e h => by
  unfold chk at h
  split at h
  · rename_i x np es pos
    simp only [Bool.and_eq_true, decide_eq_true_eq] at h
    obtain ⟨h1, h2, h3, h4, h5⟩ := h
    cases ts with
    | nil => exact absurd rfl h4
    | cons t ts =>
      cases es with
      | nil => cases h5
      | cons e es =>
        obtain ⟨F, g1, g2⟩ := xo.fn f _ h1.1 h1.2
        have q := e_call (pos := pos) (np := np) xo.K xo.gd xo.takes g2 (glo_of xo.scope h2) h3 (by unfold chks at h5; simp only [Bool.and_eq_true] at h5; exact h5.1) (hs.use xo h5) (starBack (by unfold chks at h5; simp only [Bool.and_eq_true] at h5; exact h5.2.2))
        have e0 : frT p (.call f (t :: ts)) = F.fresh := by
          show (match p.fns[f]? with
            | some F => F.fresh
            | none => false) = _
          rw [g1]
        rw [e0]
        exact oki xo.K fun m => ok_of xo.K q rfl
  · cases h
theorem s_bi (b : Bi) {ts : List T} (hs : Subs p rc ts) : Sub p rc (.bi b ts) := fun xo m e h => by
  unfold chk at h
  split at h
  · rename_i x np es pos
    simp only [Bool.and_eq_true, decide_eq_true_eq] at h
    obtain ⟨rfl, h2, h3, h4, h5⟩ := h
    cases ts with
    | nil => exact absurd rfl h4
    | cons t ts =>
      cases es with
      | nil => cases h5
      | cons e es =>
        have q := e_bi (pos := pos) (np := np) (b := b) xo.gd xo.K xo.calm xo.un h2 xo.bi (glo_of xo.scope h3) (by unfold chks at h5; simp only [Bool.and_eq_true] at h5; exact h5.1) (hs.peek xo h5) (starBack (by unfold chks at h5; simp only [Bool.and_eq_true] at h5; exact h5.2.2))
        exact oki xo.K fun m => ok_of xo.K q rfl
  · cases h
theorem s_me (me : Me) {a : T} {ts : List T} (ha : Sub p rc a) (hs : Subs p rc ts) : Sub p rc (.me me a ts) := fun xo m e h => by
  unfold chk at h
  split at h
  · simp only [Bool.and_eq_true, decide_eq_true_eq] at h
    obtain ⟨rfl, h2, h3, h4, h5, h6⟩ := h
    match ts, h4, hs, h6 with
    | [t], _, hs, h6 =>
      unfold chks at h6
      simp only [Bool.and_eq_true] at h6
      exact oki xo.K fun m => ok_of xo.K (e_me xo.K h6.1 h2 h3 (ha xo .peek h5) (hs t List.mem_cons_self xo .peek h6.2.1)) rfl
  · cases h
theorem s_rng {ts : List T} (hs : Subs p rc ts) : Sub p rc (.rng ts) := fun xo m e h => by
  unfold chk at h
  split at h
  · rename_i x np es pos
    simp only [Bool.and_eq_true, decide_eq_true_eq] at h
    obtain ⟨rfl, rfl, h2, h3, h4, h5⟩ := h
    intro tg _
    match ts, h3, h4, hs, h5 with
    | [t], _, _, hs, h5 =>
      match es, h5 with
      | [e], h5 =>
        have h6 := h5
        unfold chks at h6
        simp only [Bool.and_eq_true] at h6
        exact i_rng1 xo.bi (glo_of xo.scope h2) h6.1 (hs.peek xo h5)
      | [], h5 => cases h5
      | e :: e' :: es, h5 =>
        unfold chks at h5
        simp only [Bool.and_eq_true] at h5
        cases h5.2.2
    | [t, t'], _, _, hs, h5 =>
      match es, h5 with
      | [e, e'], h5 =>
        have h6 := h5
        unfold chks at h6
        simp only [Bool.and_eq_true] at h6
        obtain ⟨h7, h8, h9⟩ := h6
        unfold chks at h9
        simp only [Bool.and_eq_true] at h9
        exact i_rng2 xo.bi (glo_of xo.scope h2) h7 h9.1 (hs.peek xo h5) fun env S xs S' q => by
          have z := evEs_len _ _ q
          match xs, z with
          | [x, y], _ => exact ⟨x, y, rfl⟩
      | [], h5 => cases h5
      | [e], h5 =>
        unfold chks at h5
        simp only [Bool.and_eq_true] at h5
        cases h5.2.2
      | e :: e' :: e'' :: es, h5 =>
        unfold chks at h5
        simp only [Bool.and_eq_true] at h5
        obtain ⟨_, _, h9⟩ := h5
        unfold chks at h9
        simp only [Bool.and_eq_true] at h9
        cases h9.2.2
    | t :: t' :: t'' :: ts, _, h4, _, _ =>
      simp only [List.length_cons] at h4
      omega
    | [], h3, _, _, _ => exact absurd rfl h3
  · cases h
theorem s_zip {a b : T} (ha : Sub p rc a) (hb : Sub p rc b) : Sub p rc (.zip a b) := fun xo m e h => by
  unfold chk at h
  split at h
  · simp only [Bool.and_eq_true, decide_eq_true_eq] at h
    obtain ⟨rfl, rfl, h2, h3, h4, h5, h6⟩ := h
    intro tg ht
    exact i_zip xo.K xo.bi (glo_of xo.scope h2) ht h3 h4 (l_consE h3 (ok_use (ha xo .use h5)) (l_consE h4 (ok_use (hb xo .use h6)) l_nilE))
  · cases h
theorem s_enum {a : T} (ha : Sub p rc a) : Sub p rc (.enum a) := fun xo m e h => by
  unfold chk at h
  split at h
  · simp only [Bool.and_eq_true, decide_eq_true_eq] at h
    obtain ⟨rfl, rfl, h2, h3, h4⟩ := h
    intro tg ht
    exact i_enum xo.K xo.bi (glo_of xo.scope h2) ht h3 (l_consE h3 (ok_use (ha xo .use h4)) l_nilE)
  · cases h
theorem s_tzip {a b : T} (ha : Sub p rc a) (hb : Sub p rc b) : Sub p rc (.tzip a b) := fun xo m e h => by
  unfold chk at h
  split at h
  · simp only [Bool.and_eq_true, decide_eq_true_eq] at h
    obtain ⟨rfl, rfl, h1, h2, h3, h4, h5, h6⟩ := h
    exact oki xo.K fun m => ok_of xo.K (e_tzip xo.K xo.calm xo.bi (glo_of xo.scope h1) (glo_of xo.scope h2) h3 h4 (ha xo .peek h5) (hb xo .peek h6)) rfl
  · cases h
theorem s_sset {b : Bool} {a : T} (ha : Sub p rc a) : Sub p rc (.sset b a) := fun xo m e h => by
  unfold chk at h
  split at h
  · simp only [Bool.and_eq_true, decide_eq_true_eq] at h
    obtain ⟨rfl, rfl, h1, h2, h3, h4⟩ := h
    exact oki xo.K fun m => ok_of xo.K (e_sset xo.K xo.calm xo.un xo.bi (glo_of xo.scope h1) (glo_of xo.scope h2) h3 (ha xo .peek h4)) rfl
  · cases h
theorem s_comp {d it : T} {cs : List T} (tg : Tg) (hd : Sub p rc d) (hi : Sub p rc it) (hcs : Subs p rc cs) : Sub p rc (.comp d tg it cs) := fun {X u sc} xo m e h => by
  unfold chk at h
  split at h
  · simp only [Bool.and_eq_true, decide_eq_true_eq] at h
    obtain ⟨h1, h2, h3, h4, h5, h6, h7, h8⟩ := h
    have hb := blkOk_by h2
    rw [← xo.scope] at hb
    have q := e_comp (u := u) (X := X) (pos := by assumption) (fi := fun env S => (evE p.gl rc it env S).bind fun x S => lift (items x) S) (fc := evCs p.gl rc cs) (fe := evE p.gl rc d) xo.K xo.calm xo.nd (hi xo .it h5 _ (itOk_inv h4)) hb h1 (ownC_map _ _)
      (fun s H C cl fp => pgT (stOk_blk xo s H C cl fp) tg xo.K h3) (fun s H C cl fp => hcs.cs (xo.blk s H C cl fp) h6 h7) (fun s H C cl fp => ok_use (hd (xo.blk s H C cl fp) .use h8)) (fun x => set_free h4 h5 X.env x)
    exact oki xo.K fun m => ok_of xo.K q rfl
  · cases h
theorem s_fld (c i : Nat) (x : Str) : Sub p rc (.fld c i x) := fun xo m e h => by
  unfold chk at h
  exact oki xo.K fun m => e_fld xo h m
theorem s_flen (c i : Nat) (x : Str) : Sub p rc (.flen c i x) := fun xo m e h => by
  unfold chk at h
  split at h
  · simp only [Bool.and_eq_true, decide_eq_true_eq] at h
    obtain ⟨rfl, h1, h2, h3⟩ := h
    exact oki xo.K fun m => e_flen xo (glo_of xo.scope h1) h2 h3 m
  · cases h
theorem s_ftup (c i : Nat) (x : Str) : Sub p rc (.ftup c i x) := fun xo m e h => by
  unfold chk at h
  split at h
  · simp only [Bool.and_eq_true, decide_eq_true_eq] at h
    obtain ⟨rfl, h1, h2, h3⟩ := h
    exact oki xo.K fun m => e_ftup xo (glo_of xo.scope h1) h2 h3 m
  · cases h
theorem s_fne (c i : Nat) (x : Str) : Sub p rc (.fne c i x) := fun xo m e h => by
  unfold chk at h
  split at h
  · exact oki xo.K fun m => e_fne (op := []) xo h m
  · cases h
theorem s_fix (c i : Nat) (x : Str) (k : Int) : Sub p rc (.fix c i x k) := fun xo m e h => by
  unfold chk at h
  split at h
  · simp only [Bool.and_eq_true] at h
    exact oki xo.K fun m => e_fix xo h.1 h.2 m
  · cases h
theorem form_ok {X : Cx} {pos : Pos} {es : List Expr} {ts : List T} {m : Md} {sc : Scope} {N : List Str} {o : List Bool} (h : chks p N o ts m sc es = true) (l : ts.length < 29) : methodCallForm (es.length + 0) (backTo pos (starEach es X.env)) (backToKw pos (keywordEach [] X.env)) = true := by
  have len : ts.length = es.length := by
    have := chks_len h
    first | exact this | exact this.symm
  have none_ : (backTo pos (starEach es X.env)).any (·.1) = false := starBack h
  unfold methodCallForm
  have a1 : (backTo pos (starEach es X.env)).all (fun x => !x.1) = true := by
    rw [List.all_eq_true]
    intro x hx
    have := List.any_eq_false.mp none_ x hx
    simpa using this
  rw [a1]
  have a2 : (backToKw pos (keywordEach [] X.env)).all (fun x => x.1.isSome) = true := rfl
  rw [a2]
  simp only [Bool.and_self, Bool.true_and, decide_eq_true_eq]
  split <;> omega
theorem s_mcall (c f i : Nat) (m : Str) {ts : List T} (hs : Subs p rc ts) : Sub p rc (.mcall c f i m ts) := fun xo md e h => by
  unfold chk at h
  split at h
  · rename_i eo nm apos es pos
    simp only [Bool.and_eq_true, decide_eq_true_eq] at h
    obtain ⟨⟨⟨rfl, h1⟩, h2⟩, h3, h4, h5, h6⟩ := h
    obtain ⟨k, hk⟩ := Option.isSome_iff_exists.mp h4
    obtain ⟨F, g1, g2⟩ := xo.mt f c _ h1
    have e0 : frT p (.mcall c f i nm ts) = F.fresh := by
      show (match p.fns[f]? with
        | some F => F.fresh
        | none => false) = _
      rw [g1]
    rw [e0]
    cases ts with
    | nil =>
      cases es with
      | nil => exact oki xo.K fun md => ok_of xo.K (e_mcall0 xo h5 g2 k hk h3) rfl
      | cons _ _ => cases h6
    | cons t ts =>
      cases es with
      | nil => cases h6
      | cons e es => exact oki xo.K fun md => ok_of xo.K (e_mcall xo h5 g2 k hk (by unfold chks at h6; simp only [Bool.and_eq_true] at h6; exact h6.1) (hs.use xo h6) (starBack (by unfold chks at h6; simp only [Bool.and_eq_true] at h6; exact h6.2.2)) (form_ok h6 h2) h3) rfl
  · cases h
theorem s_new (c f : Nat) {ts : List T} (hs : Subs p rc ts) : Sub p rc (.new c f ts) := fun xo md e h => by
  unfold chk at h
  split at h
  · rename_i y np es pos
    simp only [Bool.and_eq_true, decide_eq_true_eq] at h
    obtain ⟨⟨h0, h1⟩, h2, h3, h4⟩ := h
    obtain ⟨F, g1, g2⟩ := xo.mt f c _ h1
    cases hk : p.cls[c]? with
    | none =>
      rw [hk] at h0
      cases h0
    | some k =>
      rw [hk] at h0
      obtain rfl : k.1 = y := Option.some.inj h0
      cases ts with
      | nil =>
        cases es with
        | nil => exact oki xo.K fun md => ok_of xo.K (e_new0 xo (glo_of xo.scope h2) h3 g2 hk) rfl
        | cons _ _ => cases h4
      | cons t ts =>
        cases es with
        | nil => cases h4
        | cons e es => exact oki xo.K fun md => ok_of xo.K (e_new xo (glo_of xo.scope h2) h3 g2 hk (by unfold chks at h4; simp only [Bool.and_eq_true] at h4; exact h4.1) (hs.use xo h4) (starBack (by unfold chks at h4; simp only [Bool.and_eq_true] at h4; exact h4.2.2))) rfl
  · cases h
theorem s_din (x : Str) (es : List (Str × Int)) {a : T} (ha : Sub p rc a) : Sub p rc (.din x es a) := fun xo m e h => by
  unfold chk at h
  split at h
  · simp only [Bool.and_eq_true, decide_eq_true_eq] at h
    obtain ⟨⟨rfl, h1⟩, h2, h3, h4⟩ := h
    obtain ⟨ad, q1, q2⟩ := xo.dt _ h1
    exact oki xo.K fun m => e_din xo.K (glo_of xo.scope h2) h3 q1 q2 (ha xo .peek h4) m
  · cases h
theorem s_dix (x : Str) (es : List (Str × Int)) {a : T} (ha : Sub p rc a) : Sub p rc (.dix x es a) := fun xo m e h => by
  unfold chk at h
  split at h
  · simp only [Bool.and_eq_true, decide_eq_true_eq] at h
    obtain ⟨⟨rfl, h1⟩, h2, h3, h5, h4⟩ := h
    obtain ⟨ad, q1, q2⟩ := xo.dt _ h1
    exact oki xo.K fun m => ok_of xo.K (e_dix xo.K (glo_of xo.scope h2) h3 q1 q2 (plainIx_of h5) (ha xo .peek h4)) rfl
  · cases h
theorem s_dget (x : Str) (es : List (Str × Int)) {a b : T} (ha : Sub p rc a) (hb : Sub p rc b) : Sub p rc (.dget x es a b) := fun xo m e h => by
  unfold chk at h
  split at h
  · simp only [Bool.and_eq_true, decide_eq_true_eq] at h
    obtain ⟨⟨rfl, h1⟩, rfl, h2, h3, h4, h5, h6, h7, h8⟩ := h
    obtain ⟨ad, q1, q2⟩ := xo.dt _ h1
    exact oki xo.K fun m => ok_of xo.K (e_dget xo.K (glo_of xo.scope h2) h3 q1 q2 h5 h6 h4 (ha xo .peek h7) (ok_use (hb xo .use h8))) rfl
  · cases h
theorem s_lset {a : T} (ha : Sub p rc a) : Sub p rc (.lset a) := fun xo m e h => by
  unfold chk at h
  split at h
  · simp only [Bool.and_eq_true, decide_eq_true_eq] at h
    obtain ⟨rfl, rfl, h1, h2, h3, h4⟩ := h
    exact oki xo.K fun m => ok_of xo.K (e_lset xo.K xo.calm xo.bi (glo_of xo.scope h1) (glo_of xo.scope h2) h3 (ha xo .peek h4)) rfl
  · cases h
theorem s_bad : Sub p rc .bad := fun xo md e h => by
  cases md with
  | use => exact ⟨fun pins s σ H Q I ⟨g, env, S, sr, z⟩ => z.elim⟩
  | peek => exact ⟨fun pins s σ H Q I ⟨g, env, S, sr, z⟩ => z.elim⟩
  | test => exact ⟨fun pins s σ H Q I ⟨g, env, S, sr, z⟩ => z.elim⟩
  | it => exact fun tg _ => ⟨fun pins s σ H Q I ⟨g, env, S, sr, z⟩ => z.elim⟩
/-! a comprehension over a field -/
def tProj (K : PySem.W.Frag) : T → TE
  | .v j => tVar j
  | .ix (.v j) (.int k) => tOp (rIxA K) (tVar j) (tC (.int k))
  | _ => fun _ _ _ => False
theorem projT_form {d : T} (hp : projT d = true) : (∃ j, d = .v j) ∨ ∃ j k, d = .ix (.v j) (.int k) := by
  unfold projT at hp
  split at hp
  · exact .inl ⟨_, rfl⟩
  · exact .inr ⟨_, _, rfl⟩
  · cases hp
theorem proj_pe {X : Cx} {u : Su} {sc : Scope} {d : T} {ee : Expr} (xo : XO X u p rc sc) (hp : projT d = true) (h : chk p X.N u.o d .use sc ee = true) : PE X ee (tProj X.K d) := by
  have var : ∀ {j : Nat} {md : Md} {ee : Expr}, chk p X.N u.o (.v j) md sc ee = true → PE X ee (tVar j) := fun {j md ee} h => by
    unfold chk at h
    split at h
    · simp only [Bool.and_eq_true, decide_eq_true_eq] at h
      rename_i y yp
      exact pe_var h.1 (visOf xo h.2.1) (plain_of h.2.2.1).1 (plain_of h.2.2.1).2.1
    · cases h
  unfold projT at hp
  split at hp
  · exact var h
  · unfold chk at h
    split at h
    · simp only [Bool.and_eq_true] at h
      obtain ⟨h1, h2, h3⟩ := h
      unfold chk at h3
      split at h3
      · rw [decide_eq_true_eq] at h3
        subst h3
        exact pe_ix ix_rule (var h2) pe_int (plainIx_of h1)
      · cases h3
    · cases h
  · cases hp
theorem proj_read {u : Su} {d : T} {g : Gh} {env : Env} {S S' : Sto} {σ : L2.St} {H : Hp} {y : D} {Q : VK} (hp : projT d = true) (hv : ∀ j, d = .v j → own u.o j = false) (sr : u.SR g env S σ H) (e : evE p.gl rc d env S = .ok y S') (q : ∀ v, Rep u.K u.ca g v y → Q v H) : S' = S ∧ tProj u.K d σ H Q := by
  have varU : ∀ {j : Nat} {x : D} {S' : Sto}, own u.o j = false → evE p.gl rc (.v j) env S = .ok x S' → S' = S ∧ ∃ v, σ[j]? = some (some v) ∧ Rep u.K u.ca g v x := fun {j x S'} ho e => by
    unfold evE at e
    split at e
    · rename_i d1 e1
      cases e
      exact ⟨rfl, sr.read ho e1⟩
    · cases e
  have var : ∀ {j : Nat} {x : D} {S' : Sto}, evE p.gl rc (.v j) env S = .ok x S' → S' = S ∧ ∃ v, σ[j]? = some (some v) ∧ RepH u.K u.ca g H v x := fun {j x S'} e => by
    unfold evE at e
    split at e
    · rename_i d1 e1
      cases e
      exact ⟨rfl, sr.peek e1⟩
    · cases e
  unfold projT at hp
  split at hp
  · obtain ⟨e1, v, e2, e3⟩ := varU (hv _ rfl) e
    exact ⟨e1, v, e2, q v e3⟩
  · rename_i j k
    have e' : ((evE p.gl rc (.v j) env S).bind fun x S => (Res.ok (D.int k) S).bind fun y S => match x with
      | .obj n => match S[n]? with
        | some (.box d) => lift (evIx d y) S
        | _ => .err
      | x => lift (evIx x y) S) = .ok y S' := e
    cases q1 : evE p.gl rc (.v j) env S with
    | ok x S1 =>
      rw [q1] at e'
      obtain ⟨e1, v, e2, e3⟩ := var q1
      subst e1
      simp only [Res.ok_bind] at e'
      have go : ∀ {x : D}, RepH u.K u.ca g H v x → (lift (evIx x (.int k)) S1 = .ok y S') → S' = S1 ∧ tProj u.K (.ix (.v j) (.int k)) σ H Q := fun {x} e3 e' => by
        cases q2 : evIx x (.int k) with
        | none =>
          rw [q2] at e'
          cases e'
        | some z =>
          rw [q2] at e'
          cases e'
          exact ⟨rfl, v, e2, ix_post sr.bs e3 (.inl (.int k)) q2 fun w rw_ => q w rw_⟩
      cases x <;> first | exact go e3 e' | skip
      rename_i n
      have e' : (match S1[n]? with
        | some (.box d) => lift (evIx d (.int k)) S1
        | _ => .err) = Res.ok y S' := e'
      split at e'
      · rename_i d1 e4
        obtain ⟨a, ev, ea⟩ := Rep.obj_inv (e3.rep rfl)
        unfold Gh.at_ at ea
        cases q3 : g.A[n]? with
        | none =>
          rw [q3] at ea
          cases ea
        | some l =>
          rw [q3] at ea
          obtain ⟨a', rfl, hh⟩ := sr.bs.cell n l _ q3 e4
          have ez : a' = a := by simpa using ea
          subst ez
          cases q4 : evIx d1 (.int k) with
          | none =>
            rw [q4] at e'
            cases e'
          | some z =>
            rw [q4] at e'
            cases e'
            obtain ⟨xs, rfl⟩ : ∃ xs, d1 = .lst xs := by
              cases d1 <;> first | exact hh.elim | cases q4 | exact ⟨_, rfl⟩
            obtain ⟨vs, h1, h2, h3⟩ := hh
            obtain ⟨w, h4, h5⟩ := h3.atI q4
            exact ⟨rfl, v, e2, .inl ⟨a', vs, _, w, ev, rfl, .inl (.inl h1), h4, q w h5⟩⟩
      · cases e'
    | exc x S1 =>
      rw [q1] at e'
      cases e'
    | err =>
      rw [q1] at e'
      cases e'
  · cases hp
theorem fc_read {u : Su} {c i : Nat} {x : Str} {tgt : Tg} {d : T} {K : PySem.W.Frag} (hK : u.K = K) (hp : projT d = true) (hv : ∀ j, d = .v j → own u.o j = false) (ho : (tgt.slots.all fun i => !own u.o i) = true) (hc : Cls K (u.ca c)) (hn : NoAttr K (u.ca c) x) {σ : L2.St} {H : Hp} {Q : VK}
    (h : rN u true (fun env S => match fldOf env S c i x with
      | some (.lst xs) => (compL (fun d1 S => match Tg.set tgt d1 (wipeE env tgt.slots) with
        | some env' => (evE p.gl rc d env' S).bind fun y S => .ok (some y) S
        | none => .err) xs S).bind fun r S => .ok (.lst r) S
      | _ => .err) σ H Q) : tLc (iList K (tFld K (tVar i) x)) (gT u.blk tgt) tYes (tProj K d) tgt.slots σ H Q := by
  subst hK
  obtain ⟨g, env, S, sr, pq⟩ := h
  obtain ⟨a, dx, ls, fv, fs, n, l, xs, vs, i1, i2, i3, i4, i5, i6, i7, i8, i9, i10, pq⟩ := lst_at (k := fun xs S => (compL (fun d1 S => match Tg.set tgt d1 (wipeE env tgt.slots) with
        | some env' => (evE p.gl rc d env' S).bind fun y S => .ok (some y) S
        | none => .err) xs S).bind fun r S => .ok (.lst r) S) sr pq
  refine ⟨_, i3, a, _, dx, fv, _, rfl, i6, hc, hn, i7, l, rfl, ⟨vs, .inl (.inl i8)⟩, fun Da nD => ?_⟩
  generalize hf : (fun (d1 : D) (S : Sto) => match Tg.set tgt d1 (wipeE env tgt.slots) with
        | some env' => (evE p.gl rc d env' S).bind fun y S => Res.ok (some y) S
        | none => .err) = f at pq
  cases q1 : compL f xs S with
  | err =>
    rw [q1] at pq
    exact pq.elim
  | exc y S1 =>
    exfalso
    refine compL_noexc (fun d1 S0 y1 S2 z => ?_) xs S y S1 q1
    subst hf
    dsimp only at z
    cases e1 : Tg.set tgt d1 (wipeE env tgt.slots) with
    | none =>
      rw [e1] at z
      cases z
    | some env' =>
      rw [e1] at z
      dsimp only at z
      cases e2 : evE p.gl rc d env' S0 with
      | ok y2 S3 =>
        rw [e2] at z
        cases z
      | exc y2 S3 =>
        exfalso
        rcases projT_form hp with ⟨j, rfl⟩ | ⟨j, k, rfl⟩
        · unfold evE at e2
          split at e2 <;> cases e2
        · have e3 : ((evE p.gl rc (.v j) env' S0).bind fun x S => (Res.ok (D.int k) S).bind fun y S => match x with
            | .obj n => match S[n]? with
              | some (.box d) => lift (evIx d y) S
              | _ => .err
            | x => lift (evIx x y) S) = .exc y2 S3 := e2
          cases e4 : evE p.gl rc (.v j) env' S0 with
          | ok x1 S4 =>
            rw [e4] at e3
            simp only [Res.ok_bind] at e3
            have nl : ∀ {o : Option D} {S : Sto}, lift o S ≠ .exc y2 S3 := fun {o S} z => by cases o <;> cases z
            split at e3
            · split at e3
              · exact nl e3
              · cases e3
            · exact nl e3
          | exc x1 S4 =>
            unfold evE at e4
            split at e4 <;> cases e4
          | err =>
            rw [e4] at e3
            cases e3
      | err =>
        rw [e2] at z
        cases z
  | ok r Sf =>
    rw [q1] at pq
    have lx : xs.length = vs.length := i10.length.symm
    have ne : l ≠ Da := fun z => by
      rw [z, nD] at i8
      cases i8
    have w := walk_list (K := u.K) (a := l) (xs := vs)
    refine lc_it w (fun k H2 => ∃ acc ys r2, H2 = upd H Da (.lst acc) ∧ Reps u.K u.ca g acc ys ∧ acc.length ≤ k ∧ compL f (xs.drop k) S = .ok r2 Sf ∧ ys ++ r2 = r) ?_ ?_ ?_ ?_
    · exact ⟨[], [], r, rfl, .nil, Nat.le_refl _, q1, rfl⟩
    · rintro k H2 hk ⟨acc, ys, r2, rfl, _⟩
      exact .inl (.inl (by rw [upd_ne ne]; exact i8))
    · rintro k v H2 H3 hk ⟨acc, ys, r2, rfl, ra, la, hr, hy⟩ ⟨z1, z2⟩
      subst z1
      have hk2 : k < xs.length := by omega
      obtain ⟨d1, hd⟩ : ∃ d1, xs[k]? = some d1 := ⟨xs[k], List.getElem?_eq_getElem hk2⟩
      obtain ⟨v', hv, rv⟩ := i10.get hd
      rw [z2] at hv
      cases hv
      have hdr : xs.drop k = d1 :: xs.drop (k + 1) := by
        rw [← List.getElem_cons_drop hk2]
        rw [List.getElem?_eq_getElem hk2] at hd
        cases hd
        rfl
      rw [hdr] at hr
      unfold compL at hr
      cases q2 : f d1 S with
      | exc y S1 =>
        rw [q2] at hr
        cases hr
      | err =>
        rw [q2] at hr
        cases hr
      | ok o S1 =>
        rw [q2] at hr
        simp only [Res.ok_bind] at hr
        have q2' := q2
        rw [← hf] at q2'
        dsimp only at q2'
        cases q3 : Tg.set tgt d1 (wipeE env tgt.slots) with
        | none =>
          rw [q3] at q2'
          cases q2'
        | some env' =>
          rw [q3] at q2'
          dsimp only at q2'
          have sg := sr.grow (same_upd (x := .lst acc) nD)
          have sw : u.blk.SR g (wipeE env tgt.slots) S (L2.wipe σ tgt.slots) (upd H Da (.lst acc)) := SR.wipe (u := u) tgt.slots sg
          refine ⟨g, _, S, d1, env', sw, rv, q3, fun σ2 s2 l2 k2 => ⟨wipe_back l2 k2, ?_⟩⟩
          have e0 : frzs u.blk.o tgt.slots = u.blk.o := own_none ho
          rw [e0] at s2
          have s2 : u.blk.SR g env' S σ2 (upd H Da (.lst acc)) := s2
          have yes : ∀ (b : Bool → Hp → Prop) (h : Hp), b true h → tYes σ2 h b := fun _ _ h => h
          refine yes _ _ ?_
          rw [if_pos rfl]
          cases q4 : evE p.gl rc d env' S with
          | ok y S4 =>
            rw [q4] at q2'
            have same := (proj_read (u := u.blk) (Q := fun _ _ => True) hp hv s2 q4 fun _ _ => trivial).1
            subst same
            cases q2'
            cases q5 : compL f (xs.drop (k + 1)) S1 with
            | ok r3 S5 =>
              rw [q5] at hr
              cases hr
              refine (proj_read (u := u.blk) hp hv s2 q4 fun vy ry => ?_).2
              exact ⟨acc, upd_same, by omega, acc ++ [vy], ys ++ [y], r3, funext fun b => by by_cases z : b = Da <;> simp [upd, z], ra.append (.cons ry .nil), by rw [List.length_append]; show acc.length + 1 ≤ k + 1; omega, rfl, by rw [← hy, List.append_assoc]; rfl⟩
            | exc y1 S5 =>
              rw [q5] at hr
              cases hr
            | err =>
              rw [q5] at hr
              cases hr
          | exc y S4 =>
            rw [q4] at q2'
            cases q2'
          | err =>
            rw [q4] at q2'
            cases q2'
    · rintro H2 ⟨acc, ys, r2, rfl, ra, la, hr, hy⟩
      rw [← lx, List.drop_length] at hr
      cases hr
      rw [List.append_nil] at hy
      subst hy
      refine PostN.lst sr pq ra (by omega) nD
theorem own_use {N : List Str} {o : List Bool} {j : Nat} {sc : Scope} {e : Expr} (h : chk p N o (.v j) .use sc e = true) : own o j = false := by
  unfold chk at h
  split at h
  · simp only [Bool.and_eq_true, Bool.or_eq_true, decide_eq_true_eq, reduceCtorEq, false_or, Bool.not_eq_true'] at h
    exact h.2.2.2
  · cases h
theorem s_fcomp (c i : Nat) (x : Str) (tg : Tg) (d : T) (hd : Sub p rc d) : Sub p rc (.fcomp c i x tg d) := fun {X u sc} xo m e h => by
  unfold chk at h
  split at h
  · rename_i ee etg eit scope pos
    simp only [Bool.and_eq_true] at h
    obtain ⟨h1, h2, h3, h4, h5, h6⟩ := h
    obtain ⟨hc, hn, pl, q⟩ := fld_of xo h4
    have hb := blkOk_by h2
    rw [← xo.scope] at hb
    have ho : (((ownC X.N tg.slots).map (·.2)).all fun i => !own u.o i) = true := by rw [ownC_map]; exact h1
    have hs : ∀ v, foldedSetIterable eit X.env v = pure v := fun v => by
      unfold fldB at h4
      split at h4
      · rfl
      · cases h4
    have r := pe_lc (pos := pos) xo.calm xo.nd (pi_list (tg := etg) q) hb (fun s H C cl fp => pgT (stOk_blk xo s H C cl fp) tg xo.K h3) (fun s H C cl fp => pts_nil) (fun s H C cl fp => (show PE _ ee (tProj X.K d) from proj_pe (xo.blk s H C cl fp) h5 h6)) hs
    rw [ownC_map] at r
    refine oki xo.K fun m => ok_of xo.K (r.imp fun σ H Q h => ?_) rfl
    exact fc_read xo.K h5 (fun j e => by subst e; exact own_use h6) h1 hc hn h
  · cases h
mutual
theorem sE : ∀ t : T, Sub p rc t
  | .non => s_non
  | .bl b => s_bl b
  | .int i => s_int i
  | .str s => s_str s
  | .v i => s_v i
  | .g k => s_g k
  | .bin o a b => s_bin o (sE a) (sE b)
  | .neg a => s_neg (sE a)
  | .no a => s_no (sE a)
  | .cmp c a b => s_cmp c (sE a) (sE b)
  | .isN a => s_isN (sE a)
  | .notN a => s_notN (sE a)
  | .isB a b => s_isB b (sE a)
  | .notB a b => s_notB b (sE a)
  | .chn c c' a b d => s_chn c c' (sE a) (sE b) (sE d)
  | .an ts => s_an (sEs ts)
  | .orr ts => s_or (sEs ts)
  | .ite c a b => s_ite (sE c) (sE a) (sE b)
  | .tup ts => s_tup (sEs ts)
  | .lst ts => s_lst (sEs ts)
  | .box ts => s_box (sEs ts)
  | .ix a i => s_ix (sE a) (sE i)
  | .sl a lo hi => s_sl (sE a) (sE lo) (sE hi)
  | .rev a => s_rev (sE a)
  | .call f ts => s_call f (sEs ts)
  | .bi b ts => s_bi b (sEs ts)
  | .isi a t => s_isi t (sE a)
  | .me m a ts => s_me m (sE a) (sEs ts)
  | .comp e tg it cs => s_comp tg (sE e) (sE it) (sEs cs)
  | .rng ts => s_rng (sEs ts)
  | .zip a b => s_zip (sE a) (sE b)
  | .enum a => s_enum (sE a)
  | .tzip a b => s_tzip (sE a) (sE b)
  | .sset b a => s_sset (sE a)
  | .fld c i x => s_fld c i x
  | .flen c i x => s_flen c i x
  | .fne c i x => s_fne c i x
  | .fix c i x k => s_fix c i x k
  | .ftup c i x => s_ftup c i x
  | .fcomp c i x tg e => s_fcomp c i x tg e (sE e)
  | .new c f ts => s_new c f (sEs ts)
  | .mcall c f i m ts => s_mcall c f i m (sEs ts)
  | .bad => s_bad
  | .din x es a => s_din x es (sE a)
  | .dix x es a => s_dix x es (sE a)
  | .dget x es a b => s_dget x es (sE a) (sE b)
  | .lset a => s_lset (sE a)
theorem sEs : ∀ ts : List T, Subs p rc ts
  | [] => fun _ h => nomatch h
  | t :: ts => fun x h => by
    rcases List.mem_cons.mp h with e | h
    · rw [e]
      exact sE t
    · exact sEs ts x h
end
end
end VE

set_option Elab.async false
set_option linter.all false
set_option maxRecDepth 100000
set_option maxHeartbeats 4000000
/-! VE, part 11: statements: what is told of them, and the slots' updates. -/
namespace VE
open PySem PySem.Spec PyProof.Rows L2

section
variable (u : Su) (om o' : List Bool) (rt : Bool)
def PostS (g : Gh) (r : Out) (E : Ends) : Prop := match r with
  | .nx env' S' => ∀ σ' H' g', SR u.K u.ca u.g0 u.H0 o' g' env' S' σ' H' → GhLe g g' → E.nx σ' H'
  | .rt d S' => ∀ v H' g', Bs u.K u.ca g' S' H' → Fr u.g0 u.H0 g' H' → NewR u.K u.ca rt u.H0 g' H' v d → E.rt v H'
  | .exc x env' S' => ∀ cls dx σ' H' g', SR u.K u.ca u.g0 u.H0 om g' env' S' σ' H' → ExcOk u.K u.ca g' H' x cls dx → u.W cls dx σ' H'
  | .err => False
def rS (f : Env → Sto → Out) : TS := fun E σ H => ∃ g env S, u.SR g env S σ H ∧ PostS u om o' rt g (f env S) E
end
section
variable {X : Cx} {u : Su} {g g1 : Gh} {env : Env} {S S1 : Sto} {σ : L2.St} {H H1 : Hp} {v w : V} {x y d : D} {fr rt : Bool} {om o o' : List Bool} {fz : List Nat} {f f1 f2 f3 : Env → Sto → Res D} {r : Out} {E : Ends} {K : PySem.W.Frag} {ca : Nat → Addr} {g0 : Gh} {H0 : Hp}
theorem ExcOk.mono {x : Exc} {cls : Value} {dx : Option Addr} (l : GhLe g g1) (h : ExcOk K ca g H x cls dx) : ExcOk K ca g1 H x cls dx := by
  refine ⟨h.1, ?_⟩
  cases dx with
  | none => exact h.2
  | some a =>
    obtain ⟨fs, h1, h2, h3⟩ := h.2
    exact ⟨fs, h1, h2, h3.mono l⟩
theorem PostS.later (l : GhLe g g1) (p : PostS u om o' rt g r E) : PostS u om o' rt g1 r E := by
  cases r with
  | nx env' S' => exact fun σ' H' g' s q => p σ' H' g' s (l.trans q)
  | rt d S' => exact p
  | exc x env' S' => exact p
  | err => exact p
theorem exc_wish {x : Exc} {S' : Sto} (sr : u.SR g env S σ H) (hf : frzs u.o fz = om) (p : PostS u om o' rt g1 (.exc x env S') E) : Wish u.K u.ca u.W g H σ x S' := fun cls dx H' g' b f e => by
  have sr' := sr.next f b
  obtain ⟨g2, l, s⟩ := SR.freezes fz sr'
  rw [hf] at s
  exact p cls dx σ H' g2 s (e.mono l)
/-- first an expression, then the rest -/
theorem bindN {k : D → Sto → Out} {R : V → Hp → Prop} (sr : u.SR g env S σ H) (hf : frzs u.o fz = om) (p : PostS u om o' rt g ((f env S).outs env k) E)
    (h : ∀ d v S1 g1 H1, Bs u.K u.ca g1 S1 H1 → Fr g H g1 H1 → NewR u.K u.ca fr H g1 H1 v d → PostS u om o' rt g1 (k d S1) E → R v H1) : rN u fr f σ H R := by
  refine ⟨g, env, S, sr, ?_⟩
  cases q : f env S with
  | ok d S1 =>
    rw [q] at p
    exact fun v H1 g1 b1 f1 n1 => h d v S1 g1 H1 b1 f1 n1 (PostS.later f1.le p)
  | exc x S1 =>
    rw [q] at p
    exact exc_wish sr hf p
  | err =>
    rw [q] at p
    exact p.elim
theorem bindNP {k : D → Sto → Out} {R : V → Hp → Prop} (sr : u.SR g env S σ H) (hf : frzs u.o fz = om) (p : PostS u om o' rt g ((f env S).outs env k) E)
    (h : ∀ d v S1 g1 H1, u.SR g1 env S1 σ H1 → Fr g H g1 H1 → RepH u.K u.ca g1 H1 v d → PostS u om o' rt g1 (k d S1) E → R v H1) : rP u f σ H R := by
  refine ⟨g, env, S, sr, ?_⟩
  cases q : f env S with
  | ok d S1 =>
    rw [q] at p
    exact fun v H1 g1 b1 f1 n1 => h d v S1 g1 H1 (sr.next f1 b1) f1 n1 (PostS.later f1.le p)
  | exc x S1 =>
    rw [q] at p
    exact exc_wish sr hf p
  | err =>
    rw [q] at p
    exact p.elim
theorem bindNT {k : Bool → Sto → Out} {R : Bool → Hp → Prop} {f : Env → Sto → Res Bool} (sr : u.SR g env S σ H) (hf : frzs u.o fz = om) (p : PostS u om o' rt g ((f env S).outs env k) E)
    (h : ∀ d S1 g1 H1, u.SR g1 env S1 σ H1 → Fr g H g1 H1 → PostS u om o' rt g1 (k d S1) E → R d H1) : rT u f σ H R := by
  refine ⟨g, env, S, sr, ?_⟩
  cases q : f env S with
  | ok d S1 =>
    rw [q] at p
    exact fun H1 g1 b1 f1 => h d S1 g1 H1 (sr.next f1 b1) f1 (PostS.later f1.le p)
  | exc x S1 =>
    rw [q] at p
    exact exc_wish sr hf p
  | err =>
    rw [q] at p
    exact p.elim
theorem bindNE {k : D → Sto → Out} {R : V → Hp → Prop} (sr : u.SR g env S σ H) (hf : frzs u.o fz = om) (p : PostS u om o' rt g ((f env S).outs env k) E)
    (h : ∀ d v S1 g1 H1, u.SR g1 env S1 σ H1 → Fr g H g1 H1 → Rep u.K u.ca g1 v d → PostS u om o' rt g1 (k d S1) E → R v H1) : rE u f σ H R :=
  bindN (fr := false) sr hf p fun d v S1 g1 H1 b1 f1 n1 p1 => h d v S1 g1 H1 (sr.next f1 b1) f1 n1 p1
theorem NewD.frm {Hx H' : Hp} {g' : Gh} (f : Fr g H g' H') (h : NewD K ca Hx g H v d) : NewD K ca Hx g' H' v d := by
  cases z : d.isMut with
  | true =>
    rw [NewD.mut z] at h ⊢
    obtain ⟨a, rfl, h1, h2, h3, h4⟩ := h
    obtain ⟨x, e⟩ := h4.there
    exact ⟨a, rfl, h1, f.gnone e h2, f.nfp e h3, h4.fr f h3⟩
  | false =>
    rw [NewD.imm z] at h ⊢
    exact h.mono f.le
theorem NewR.fr2 {Hx H' : Hp} {g' : Gh} (f : Fr g H g' H') (h : NewR K ca fr Hx g H v d) : NewR K ca fr Hx g' H' v d := by
  cases fr with
  | true => exact NewD.frm f h
  | false => exact Rep.mono f.le h
/-- a new value is stored; Hx is the heap ahead of it -/
theorem SR.storeNew {Hx : Hp} {i : Nat} (r : VE.SR K ca g0 H0 o g env S σ H) (h : NewR K ca fr Hx g H v d) (hx : ∀ a, H0 a ≠ none → Hx a ≠ none) (lo : i < o.length)
    (hd : ∀ a, v = .ref a → Hx a = none → ∀ j dj, j ≠ i → env[j]? = some (some dj) → (own o j && dj.isMut) = true → σ[j]? = some (some (.ref a)) → False) : VE.SR K ca g0 H0 (o.set i fr) g (env.set i (some d)) S (σ.set i (some v)) H := by
  cases fr with
  | false => exact r.store i h
  | true =>
    have h : NewD K ca Hx g H v d := h
    refine r.storeOwn i (fun z => ?_) (fun z => ?_) (fun z j dj nj e y s => ?_) lo
    · rw [NewD.mut z] at h
      obtain ⟨a, rfl, h1, h2, h3, h4⟩ := h
      refine ⟨a, rfl, ?_, h2, h3, h4⟩
      cases q : H0 a with
      | none => rfl
      | some x => exact absurd h1 (hx a (by rw [q]; simp))
    · rw [NewD.imm z] at h
      exact h
    · rw [NewD.mut z] at h
      obtain ⟨a, rfl, h1, h2, h3, h4⟩ := h
      exact hd a rfl h1 j dj nj e y s
theorem SR.slot_there (r : VE.SR K ca g0 H0 o g env S σ H) {j : Nat} {dj : D} {a : Addr} (e : env[j]? = some (some dj)) (y : (own o j && dj.isMut) = true) (s : σ[j]? = some (some (.ref a))) : H a ≠ none := by
  obtain ⟨v, e1, e2⟩ := r.slot j dj e
  rw [SlotOk.own_ y] at e2
  obtain ⟨a', rfl, _, _, _, h⟩ := e2
  rw [e1] at s
  cases s
  obtain ⟨x, q⟩ := h.there
  rw [q]
  simp
/-- .. straight behind its making -/
theorem SR.storeNew1 {i : Nat} (r : VE.SR K ca g0 H0 o g env S σ H) (f : Fr g H g1 H1) (b : Bs K ca g1 S1 H1) (h : NewR K ca fr H g1 H1 v d) (lo : i < o.length) : VE.SR K ca g0 H0 (o.set i fr) g1 (env.set i (some d)) S1 (σ.set i (some v)) H1 :=
  (r.next f b).storeNew h r.fr.dom lo fun a _ hn j dj _ e y s => r.slot_there e y s hn
/-- an owned list is changed in its place -/
theorem SR.updOwn {i : Nat} {a : Addr} {xs ys : List D} {ws : List V} (r : VE.SR K ca g0 H0 o g env S σ H) (ho : own o i = true) (e : env[i]? = some (some (.lst xs))) (es : σ[i]? = some (some (.ref a))) (rw_ : Reps K ca g ws ys) (z : ws.length ≤ sizeLine) :
    VE.SR K ca g0 H0 o g (env.set i (some (.lst ys))) S σ (upd H a (.lst ws)) := by
  obtain ⟨v, e1, e2⟩ := r.slot i _ e
  have y1 : (own o i && (D.lst xs).isMut) = true := by rw [ho]; rfl
  rw [SlotOk.own_ y1] at e2
  rw [es] at e1
  cases e1
  obtain ⟨a', e3, h0, hg, hf, hh⟩ := e2
  cases e3
  have lt : i < env.length := (List.getElem?_eq_some_iff.mp e).1
  have old : ∀ j dj, (env.set i (some (.lst ys)))[j]? = some (some dj) → ∃ dj', env[j]? = some (some dj') ∧ dj'.isMut = dj.isMut ∧ (j ≠ i → dj' = dj) := fun j dj h => by
    by_cases hj : j = i
    · subst hj
      rw [List.getElem?_set_self lt] at h
      cases h
      exact ⟨_, e, rfl, fun z => absurd rfl z⟩
    · rw [List.getElem?_set_ne (Ne.symm hj)] at h
      exact ⟨dj, h, rfl, fun _ => rfl⟩
  refine ⟨r.bs.upd hg hf, r.fr.upd h0, by rw [List.length_set]; exact r.len, fun j dj h => ?_, fun k l dk dl b hkl h1 h2 y1 y2 s1 s2 => ?_⟩
  · by_cases hj : j = i
    · subst hj
      rw [List.getElem?_set_self lt] at h
      cases h
      refine ⟨_, es, ?_⟩
      rw [SlotOk.own_ (by rw [ho]; rfl)]
      exact ⟨a, rfl, h0, hg, hf, ws, upd_same, z, rw_⟩
    · rw [List.getElem?_set_ne (Ne.symm hj)] at h
      obtain ⟨v, s1, s2⟩ := r.slot j dj h
      refine ⟨v, s1, ?_⟩
      cases yj : (own o j && dj.isMut) with
      | true =>
        rw [SlotOk.own_ yj] at s2 ⊢
        obtain ⟨b, rfl, k1, k2, k3, k4⟩ := s2
        have ne : b ≠ a := fun q => r.dist j i dj _ a hj h e yj (by rw [ho]; rfl) (by rw [← q]; exact s1) es
        exact ⟨b, rfl, k1, k2, k3, k4.mono (GhLe.refl g) (upd_ne ne)⟩
      | false =>
        rw [SlotOk.frz_ yj] at s2 ⊢
        exact s2
  · obtain ⟨dk', q1, q2, _⟩ := old k dk h1
    obtain ⟨dl', q3, q4, _⟩ := old l dl h2
    exact r.dist k l dk' dl' b hkl q1 q3 (by rw [q2]; exact y1) (by rw [q4]; exact y2) s1 s2
theorem flat_ne {α : Type} : ∀ {A : List (List α)} {n m : Nat} {l l' : List α} {a : α}, A.flatten.Nodup → A[n]? = some l → A[m]? = some l' → a ∈ l → a ∈ l' → n = m
  | [], _, _, _, _, _, _, h, _, _, _ => by cases h
  | b :: A, 0, 0, _, _, _, _, _, _, _, _ => rfl
  | b :: A, 0, m + 1, l, l', a, hn, h1, h2, h3, h4 => by
    rw [List.flatten_cons] at hn
    have e : b = l := by simpa using h1
    subst e
    have h2 : A[m]? = some l' := by simpa using h2
    exact absurd rfl ((List.nodup_append.mp hn).2.2 a h3 a (List.mem_flatten.mpr ⟨l', List.mem_of_getElem? h2, h4⟩))
  | b :: A, n + 1, 0, l, l', a, hn, h1, h2, h3, h4 => by
    rw [List.flatten_cons] at hn
    have e : b = l' := by simpa using h2
    subst e
    have h1 : A[n]? = some l := by simpa using h1
    exact absurd rfl ((List.nodup_append.mp hn).2.2 a h4 a (List.mem_flatten.mpr ⟨l, List.mem_of_getElem? h1, h3⟩))
  | b :: A, n + 1, m + 1, l, l', a, hn, h1, h2, h3, h4 => by
    rw [List.flatten_cons] at hn
    have h1 : A[n]? = some l := by simpa using h1
    have h2 : A[m]? = some l' := by simpa using h2
    exact congrArg (· + 1) (flat_ne (A := A) (List.nodup_append.mp hn).2.1 h1 h2 h3 h4)
/-- a box is changed in its place -/
theorem SR.updBox {n : Nat} {a : Addr} {xs ys : List D} {ws : List V} (r : VE.SR K ca g0 H0 o g env S σ H) (ea : g.at_ n = some a) (es : S[n]? = some (.box (.lst xs))) (rw_ : Reps K ca g ws ys) (z : ws.length ≤ sizeLine) :
    VE.SR K ca g0 H0 o g env (S.set n (.box (.lst ys))) σ (upd H a (.lst ws)) := by
  unfold Gh.at_ at ea
  cases q : g.A[n]? with
  | none =>
    rw [q] at ea
    cases ea
  | some l =>
    rw [q] at ea
    obtain ⟨a', rfl, hh⟩ := r.bs.cell n l _ q es
    have e : a' = a := by simpa using ea
    subst e
    have fpa : g.fp a' := ⟨[a'], List.mem_of_getElem? q, by simp⟩
    have gn := r.bs.off a' fpa
    refine ⟨⟨fun c y e => ?_, r.bs.off, by rw [List.length_set]; exact r.bs.len, fun m as c h1 h2 => ?_, r.bs.nd⟩, ⟨r.fr.le, fun c y e nf => ?_, fun c h => ?_, r.fr.fpn, r.fr.gn⟩, r.len, fun j dj h => ?_, r.dist⟩
    · have ne : c ≠ a' := fun z => by
        rw [z, gn] at e
        cases e
      rw [upd_ne ne]
      exact r.bs.sub _ _ e
    · by_cases hm : n = m
      · subst hm
        rw [q] at h1
        cases h1
        have lt : n < S.length := (List.getElem?_eq_some_iff.mp es).1
        rw [List.getElem?_set_self lt] at h2
        cases h2
        exact ⟨a', rfl, ws, upd_same, z, rw_⟩
      · rw [List.getElem?_set_ne hm] at h2
        refine (r.bs.cell m as c h1 h2).mono (GhLe.refl g) fun b hb => ?_
        have ne : b ≠ a' := fun z => hm (flat_ne r.bs.nd q h1 (a := a') (by simp) (by rw [← z]; exact hb))
        rw [upd_ne ne]
    · have ne : c ≠ a' := fun z => by
        subst z
        rcases r.fr.fpn c fpa with k | k
        · exact nf k
        · rw [k] at e
          cases e
      rw [upd_ne ne]
      exact r.fr.keep c y e nf
    · by_cases z : c = a'
      · rw [z, upd_same]
        simp
      · rw [upd_ne z]
        exact r.fr.dom c h
    · obtain ⟨v, s1, s2⟩ := r.slot j dj h
      refine ⟨v, s1, ?_⟩
      cases yj : (own o j && dj.isMut) with
      | true =>
        rw [SlotOk.own_ yj] at s2 ⊢
        obtain ⟨b, rfl, k1, k2, k3, k4⟩ := s2
        have ne : b ≠ a' := fun q => k3 (by rw [q]; exact fpa)
        exact ⟨b, rfl, k1, k2, k3, k4.mono (GhLe.refl g) (upd_ne ne)⟩
      | false =>
        rw [SlotOk.frz_ yj] at s2 ⊢
        exact s2
theorem SR.ownLst {i : Nat} {xs : List D} (r : VE.SR K ca g0 H0 o g env S σ H) (ho : own o i = true) (e : env[i]? = some (some (.lst xs))) : ∃ a vs, σ[i]? = some (some (.ref a)) ∧ H a = some (.lst vs) ∧ vs.length ≤ sizeLine ∧ Reps K ca g vs xs ∧ g.G a = none ∧ ¬ g.fp a := by
  obtain ⟨v, e1, e2⟩ := r.slot i _ e
  rw [SlotOk.own_ (by rw [ho]; rfl)] at e2
  obtain ⟨a, rfl, h0, hg, hf, vs, h1, h2, h3⟩ := e2
  exact ⟨a, vs, e1, h1, h2, h3, hg, hf⟩
/-! an instance is changed in its place -/
theorem Flds.put_imm {H : Hp} {x : Str} {v : V} {d : D} (hd : d.isMut = false) (rv : Rep K ca g v d) {ls : List Addr} {fv : List (Str × V)} {fs : List (Str × D)} (h : Flds K ca g H ls fv fs) : ∃ ls', ls'.Sublist ls ∧ Flds K ca g H ls' (putF x v fv) (putD x d fs) := by
  induction h with
  | nil => exact ⟨[], .slnil, .imm hd rv .nil⟩
  | @imm y w e ls fv fs z r t ih =>
    unfold putF putD
    by_cases q : y = x
    · rw [if_pos q, if_pos q]
      exact ⟨ls, .refl _, .imm hd rv t⟩
    · rw [if_neg q, if_neg q]
      obtain ⟨ls', h1, h2⟩ := ih
      exact ⟨ls', h1, .imm z r h2⟩
  | @own y l e ls fv fs r t ih =>
    unfold putF putD
    by_cases q : y = x
    · rw [if_pos q, if_pos q]
      exact ⟨ls, (List.sublist_cons_self _ _), .imm hd rv t⟩
    · rw [if_neg q, if_neg q]
      obtain ⟨ls', h1, h2⟩ := ih
      exact ⟨l :: ls', h1.cons₂ l, .own r h2⟩
theorem Flds.put_own {H : Hp} {x : Str} {l : Addr} {d : D} (rv : Holds K ca g H l d) {ls : List Addr} {fv : List (Str × V)} {fs : List (Str × D)} (h : Flds K ca g H ls fv fs) : l ∉ ls → ls.Nodup → ∃ ls', ls'.Nodup ∧ (∀ b ∈ ls', b ∈ ls ∨ b = l) ∧ Flds K ca g H ls' (putF x (.ref l) fv) (putD x d fs) := by
  induction h with
  | nil => exact fun _ _ => ⟨[l], by simp, fun b hb => .inr (List.mem_singleton.mp hb), .own rv .nil⟩
  | @imm y w e ls fv fs z r t ih =>
    intro nl nd
    unfold putF putD
    by_cases q : y = x
    · rw [if_pos q, if_pos q]
      exact ⟨l :: ls, List.nodup_cons.mpr ⟨nl, nd⟩, fun b hb => (List.mem_cons.mp hb).elim .inr .inl, .own rv t⟩
    · rw [if_neg q, if_neg q]
      obtain ⟨ls', h1, h2, h3⟩ := ih nl nd
      exact ⟨ls', h1, h2, .imm z r h3⟩
  | @own y l2 e ls fv fs r t ih =>
    intro nl nd
    have nd' := List.nodup_cons.mp nd
    unfold putF putD
    by_cases q : y = x
    · rw [if_pos q, if_pos q]
      exact ⟨l :: ls, List.nodup_cons.mpr ⟨fun z => nl (List.mem_cons_of_mem _ z), nd'.2⟩, fun b hb => (List.mem_cons.mp hb).elim .inr fun z => .inl (List.mem_cons_of_mem _ z), .own rv t⟩
    · rw [if_neg q, if_neg q]
      obtain ⟨ls', h1, h2, h3⟩ := ih (fun z => nl (List.mem_cons_of_mem _ z)) nd'.2
      refine ⟨l2 :: ls', List.nodup_cons.mpr ⟨fun z => ?_, h1⟩, fun b hb => ?_, .own r h3⟩
      · rcases h2 _ z with z | z
        · exact nd'.1 z
        · exact nl (by rw [z]; exact List.mem_cons_self)
      · rcases List.mem_cons.mp hb with z | z
        · exact .inl (by rw [z]; exact List.mem_cons_self)
        · exact (h2 b z).imp (List.mem_cons_of_mem _) id
theorem Flds.upd {H H' : Hp} {x : Str} {l : Addr} {d d0 : D} {ls : List Addr} {fv : List (Str × V)} {fs : List (Str × D)} (rv : Holds K ca g H' l d) (hh : ∀ b, b ≠ l → H' b = H b) (h : Flds K ca g H ls fv fs) : ls.Nodup → d0.isMut = true → fs.lookup x = some d0 → fv.lookup x = some (.ref l) → Flds K ca g H' ls fv (putD x d fs) := by
  induction h with
  | nil => intro _ _ e _; cases e
  | @imm y w e ls fv fs z r t ih =>
    intro nd hm e1 e2
    unfold putD
    simp only [List.lookup] at e1 e2
    by_cases q : y = x
    · rw [q] at e1
      simp only [beq_self_eq_true] at e1
      cases e1
      rw [z] at hm
      cases hm
    · rw [if_neg q]
      have q2 : (x == y) = false := by simpa using fun z : x = y => q z.symm
      rw [q2] at e1 e2
      exact .imm z r (ih nd hm e1 e2)
  | @own y l2 e ls fv fs r t ih =>
    intro nd hm e1 e2
    have nd' := List.nodup_cons.mp nd
    unfold putD
    simp only [List.lookup] at e1 e2
    by_cases q : y = x
    · rw [if_pos q]
      rw [q] at e2
      simp only [beq_self_eq_true] at e2
      cases e2
      exact .own rv (t.mono (GhLe.refl g) fun b hb => hh b fun z => nd'.1 (by rw [← z]; exact hb))
    · rw [if_neg q]
      have q2 : (x == y) = false := by simpa using fun z : x = y => q z.symm
      rw [q2] at e1 e2
      have e2 : List.lookup x fv = some (V.ref l) := e2
      have ml : l ∈ ls := by
        obtain ⟨v, e3, e4⟩ := t.at_ e1
        rw [e2] at e3
        cases e3
        rcases e4 with ⟨z, _⟩ | ⟨l', m, e5, _⟩
        · rw [hm] at z
          cases z
        · cases e5
          exact m
      exact .own (r.mono (GhLe.refl g) (hh l2 fun z => nd'.1 (by rw [z]; exact ml))) (ih nd'.2 hm e1 e2)
theorem flat_set {α : Type} {as' : List α} (nd' : as'.Nodup) : ∀ {A : List (List α)} {n : Nat} {as : List α}, A.flatten.Nodup → A[n]? = some as → (∀ b ∈ as', b ∈ as ∨ b ∉ A.flatten) → (A.set n as').flatten.Nodup
  | [], n, as, h, q, _ => by cases q
  | l :: A, 0, as, h, q, k => by
    have e : l = as := by simpa using q
    subst e
    rw [List.set_cons_zero, List.flatten_cons]
    rw [List.flatten_cons] at h k
    obtain ⟨h1, h2, h3⟩ := List.nodup_append.mp h
    refine List.nodup_append.mpr ⟨nd', h2, fun x hx y hy e => ?_⟩
    rcases k x hx with z | z
    · exact h3 x z y hy e
    · exact z (List.mem_append_right _ (by rw [e]; exact hy))
  | l :: A, n + 1, as, h, q, k => by
    have q : A[n]? = some as := by simpa using q
    rw [List.set_cons_succ, List.flatten_cons]
    rw [List.flatten_cons] at h k
    obtain ⟨h1, h2, h3⟩ := List.nodup_append.mp h
    refine List.nodup_append.mpr ⟨h1, flat_set nd' h2 q fun b hb => (k b hb).imp id fun z y => z (List.mem_append_right _ y), fun x hx y hy e => ?_⟩
    obtain ⟨m, hm, hy⟩ := List.mem_flatten.mp hy
    obtain ⟨i, hi⟩ := List.mem_iff_getElem?.mp hm
    by_cases z : n = i
    · subst z
      rw [List.getElem?_set_self (List.getElem?_eq_some_iff.mp q).1] at hi
      cases hi
      rcases k y hy with z | z
      · exact h3 x hx y (List.mem_flatten.mpr ⟨as, List.mem_of_getElem? q, z⟩) e
      · exact z (List.mem_append_left _ (by rw [← e]; exact hx))
    · rw [List.getElem?_set_ne z] at hi
      exact h3 x hx y (List.mem_flatten.mpr ⟨m, List.mem_of_getElem? hi, hy⟩) e
def Gh.setA (g : Gh) (n : Nat) (as : List Addr) : Gh := { g with A := g.A.set n as }
theorem setA_fp {n : Nat} {as : List Addr} {b : Addr} (h : (g.setA n as).fp b) : g.fp b ∨ b ∈ as := by
  obtain ⟨l, hl, hb⟩ := h
  rcases List.mem_or_eq_of_mem_set hl with z | z
  · exact .inl ⟨l, z, hb⟩
  · exact .inr (by rw [← z]; exact hb)
theorem setA_le {n : Nat} {as as' : List Addr} (q : g.A[n]? = some as) (hd : as'.head? = as.head?) : GhLe g (g.setA n as') := ⟨Same.refl _, fun m x h => by
  unfold Gh.at_ Gh.setA at *
  dsimp only
  by_cases z : n = m
  · subst z
    rw [List.getElem?_set_self (List.getElem?_eq_some_iff.mp q).1]
    rw [q] at h
    show as'.head? = _
    rw [hd]
    exact h
  · rw [List.getElem?_set_ne z]
    exact h⟩
theorem SR.updCell {n : Nat} {as as' : List Addr} {c0 c' : Cell} {H' : Hp} (r : VE.SR K ca g0 H0 o g env S σ H) (q : g.A[n]? = some as) (es : S[n]? = some c0) (hd : as'.head? = as.head?) (nd : as'.Nodup)
    (inn : ∀ b ∈ as', b ∈ as ∨ (H0 b = none ∧ g.G b = none ∧ ¬ g.fp b ∧ ∀ j dj, env[j]? = some (some dj) → (own o j && dj.isMut) = true → σ[j]? ≠ some (some (.ref b))))
    (keep : ∀ b, b ∉ as → H' b = H b) (dom : ∀ b, H b ≠ none → H' b ≠ none) (cell : CellOk K ca (g.setA n as') H' as' c') :
    VE.SR K ca g0 H0 o (g.setA n as') env (S.set n c') σ H' := by
  have le := setA_le q hd
  have fpo : ∀ b ∈ as, g.fp b := fun b hb => ⟨as, List.mem_of_getElem? q, hb⟩
  have lt : n < g.A.length := (List.getElem?_eq_some_iff.mp q).1
  have nfo : ∀ b, ¬ g.fp b → b ∉ as := fun b h z => h (fpo b z)
  refine ⟨⟨fun b y e => ?_, fun b h => ?_, ?_, fun m as2 c h1 h2 => ?_, ?_⟩, ⟨r.fr.le.trans le, fun b y e nf => ?_, fun b h => dom b (r.fr.dom b h), fun b h => ?_, r.fr.gn⟩, r.len, fun j dj h => ?_, r.dist⟩
  · have e : g.G b = some y := e
    rw [keep b fun z => by
      have := r.bs.off b (fpo b z)
      rw [e] at this
      cases this]
    exact r.bs.sub _ _ e
  · show g.G b = none
    rcases setA_fp h with z | z
    · exact r.bs.off b z
    · rcases inn b z with z | ⟨_, z, _⟩
      · exact r.bs.off b (fpo b z)
      · exact z
  · show (g.A.set n as').length = _
    rw [List.length_set, List.length_set]
    exact r.bs.len
  · have h1 : (g.A.set n as')[m]? = some as2 := h1
    by_cases z : n = m
    · subst z
      rw [List.getElem?_set_self lt] at h1
      rw [List.getElem?_set_self (by rw [← r.bs.len]; exact lt)] at h2
      cases h1
      cases h2
      exact cell
    · rw [List.getElem?_set_ne z] at h1 h2
      exact (r.bs.cell m as2 c h1 h2).mono le fun b hb => keep b fun y => z (flat_ne r.bs.nd q h1 y hb)
  · show (g.A.set n as').flatten.Nodup
    refine flat_set nd r.bs.nd q fun b hb => (inn b hb).imp id fun ⟨_, _, z, _⟩ y => z ?_
    obtain ⟨l, h1, h2⟩ := List.mem_flatten.mp y
    exact ⟨l, h1, h2⟩
  · rw [keep b fun z => by
      rcases r.fr.fpn b (fpo b z) with k | k
      · exact nf k
      · rw [k] at e
        cases e]
    exact r.fr.keep b y e nf
  · rcases setA_fp h with z | z
    · exact r.fr.fpn b z
    · rcases inn b z with z | ⟨z, _⟩
      · exact r.fr.fpn b (fpo b z)
      · exact .inr z
  · obtain ⟨v, s1, s2⟩ := r.slot j dj h
    refine ⟨v, s1, ?_⟩
    cases yj : (own o j && dj.isMut) with
    | true =>
      rw [SlotOk.own_ yj] at s2 ⊢
      obtain ⟨b, rfl, k1, k2, k3, k4⟩ := s2
      refine ⟨b, rfl, k1, k2, fun z => ?_, k4.mono le (keep b (nfo b k3))⟩
      rcases setA_fp z with z | z
      · exact k3 z
      · rcases inn b z with z | ⟨_, _, _, z⟩
        · exact k3 (fpo b z)
        · exact z j dj h yj s1
    | false =>
      rw [SlotOk.frz_ yj] at s2 ⊢
      exact s2.mono le
end
end VE

set_option Elab.async false
set_option linter.all false
set_option maxRecDepth 100000
set_option maxHeartbeats 4000000
/-! VE, part 12: the check of statements, and that the evaluator tells what they do. -/
namespace VE
open PySem PySem.Spec PyProof.Rows L2

structure Cs where
  p : Pg
  N : List Str
  sc : Scope
  rt : Bool
  om : List Bool
  fz : List Nat
def Cs.ex (c : Cs) (o : List Bool) : Bool := decide (frzs o c.fz = c.om)
def notTup : Expr → Bool
  | .Tuple _ _ _ => false
  | _ => true
def notLc : Expr → Bool
  | .ListComp _ _ _ _ => false
  | .SetComp _ _ _ _ => false
  | .DictComp _ _ _ _ _ => false
  | _ => true
def isComp : T → Bool
  | .comp _ _ _ _ => true
  | _ => false
def lo (sc : Scope) (x : Str) : Bool := decide (sc.names.lookup x = some .local)
def immT : T → Bool
  | .non => true
  | .bl _ => true
  | .int _ => true
  | .str _ => true
  | .tup _ => true
  | .cmp _ _ _ => true
  | .no _ => true
  | .isN _ => true
  | .notN _ => true
  | _ => false
/-- the value that a def tells -/
def retOk (c : Cs) (o : List Bool) (e : T) (ee : Expr) : Bool := if c.rt = true then
    ((frT c.p e || immT e) && chk c.p c.N o e .use c.sc ee) || (match e, ee with
      | .v i, .Name x _ => own o i && (decide (c.N[i]? = some x) && (visB c.sc x && plainN x))
      | _, _ => false)
  else chk c.p c.N o e .use c.sc ee
/-- a tuple to names of which one is captured: built, then taken apart -/
def capt (sc : Scope) : Expr → Expr → Bool
  | .Tuple ts _ _, .Tuple _ _ _ => ts.any fun x => match x with
    | .Name y _ => !lo sc y
    | _ => false
  | _, _ => false
def augOp : Bool → Operator
  | true => .Sub
  | false => .Add
mutual
def chkS (c : Cs) : St → List Bool → Stmt → Option (Option (List Bool))
  | .asg i e, o, st => match st with
    | .Assign [.Name x _] ee _ => if (decide (c.N[i]? = some x) && (locB c.sc x && (decide (i < o.length) && (c.ex o && ((notLc ee || isComp e) && chk c.p c.N o e .use c.sc ee))))) = true then some (some (o.set i (frT c.p e))) else none
    | _ => none
  | .asgT tg e, o, st => match st with
    | .Assign [etg] ee _ => if (isTup etg && ((notTup ee || capt c.sc etg ee) && (chkTg c.N (locB c.sc) tg etg && (c.ex o && chk c.p c.N o e .use c.sc ee)))) = true then some (some (frzs o tg.slots)) else none
    | _ => none
  | .par is es, o, st => match is, es, st with
    | [i, j], [a, b], .Assign [.Tuple [.Name x px, .Name y py] _ _] (.Tuple [ea, eb] _ _) _ =>
      if (decide (c.N[i]? = some x) && (decide (c.N[j]? = some y) && (decide (i ≠ j) && (lo c.sc x && (lo c.sc y && (decide (px.line = py.line) && (!([ea, eb].all (foldedForSure 8)) && (!([ea, eb].all (constantsAlone 8)) && (notStar ea && (notStar eb &&
        (decide (x ≠ y) && (decide (i < o.length) && (decide (j < o.length) && (c.ex o && (chk c.p c.N o a .use c.sc ea && chk c.p c.N o b .use c.sc eb))))))))))))))) = true then some (some ((o.set i (frT c.p a)).set j (frT c.p b))) else none
    | _, _, _ => none
  | .expr e, o, st => match st with
    | .Expr ee _ => if (notLc ee && (c.ex o && chk c.p c.N o e .use c.sc ee)) = true then some (some o) else none
    | _ => none
  | .app i e, o, st => match st with
    | .Expr (.Call (.Attribute (.Name x _) nm apos) [ee] [] cpos) _ => if (decide (nm = "append") && (decide (c.N[i]? = some x) && (visB c.sc x && (plainN x && (own o i && ((apos.endLine == cpos.line) && (notStar ee && (c.ex o && chk c.p c.N o e .use c.sc ee)))))))) = true then some (some o) else none
    | _ => none
  | .extd i e, o, st => match st with
    | .Expr (.Call (.Attribute (.Name x _) nm apos) [ee] [] cpos) _ => if (decide (nm = "extend") && (decide (c.N[i]? = some x) && (visB c.sc x && (plainN x && (own o i && ((apos.endLine == cpos.line) && (notStar ee && (c.ex o && chk c.p c.N o e .peek c.sc ee)))))))) = true then some (some o) else none
    | _ => none
  | .insr i a e, o, st => match st with
    | .Expr (.Call (.Attribute (.Name x _) nm apos) [ea, ee] [] cpos) _ => if (decide (nm = "insert") && (decide (c.N[i]? = some x) && (visB c.sc x && (plainN x && (own o i && ((apos.endLine == cpos.line) && (notStar ea && (notStar ee && (c.ex o && (chk c.p c.N o a .peek c.sc ea && chk c.p c.N o e .use c.sc ee)))))))))) = true then some (some o) else none
    | _ => none
  | .setI i k e, o, st => match st with
    | .Assign [.Subscript (.Name x _) ek _] ee _ => if (decide (c.N[i]? = some x) && (visB c.sc x && (plainN x && (own o i && (notSlice ek && (c.ex o && (chk c.p c.N o e .use c.sc ee && chk c.p c.N o k .peek c.sc ek))))))) = true then some (some o) else none
    | _ => none
  | .bset b k e, o, st => match st with
    | .Assign [.Subscript eb ek _] ee _ => if (notSlice ek && (c.ex o && (chk c.p c.N o e .use c.sc ee && (chk c.p c.N o b .peek c.sc eb && chk c.p c.N o k .peek c.sc ek)))) = true then some (some o) else none
    | _ => none
  | .fset k i x fr e, o, st => match st with
    | .Assign [.Attribute eo nm ap] ee _ => if ((!fr || frT c.p e) && (notLc ee && (fldB c.p c.N k i x c.sc (.Attribute eo nm ap) && (c.ex o && chk c.p c.N o e .use c.sc ee)))) = true then some (some o) else none
    | _ => none
  | .fapp k i x j, o, st => match st with
    | .Expr (.Call (.Attribute (.Attribute eo nm ap) mn apos) [ee] [] cpos) _ => if (decide (mn = "append") && (fldB c.p c.N k i x c.sc (.Attribute eo nm ap) && ((apos.endLine == cpos.line) && (notStar ee && (c.ex o && chk c.p c.N o (.v j) .use c.sc ee))))) = true then some (some o) else none
    | _ => none
  | .bad, _, _ => some none
  | .aug i sb e, o, st => match st with
    | .AugAssign (.Name x _) op ee _ => if (decide (op = augOp sb) && (decide (c.N[i]? = some x) && (locB c.sc x && (c.ex o && chk c.p c.N o e .peek c.sc ee)))) = true then some (some (o.set i false)) else none
    | _ => none
  | .iff t a b, o, st => match st with
    | .If ec sa sb _ => if (c.ex o && chk c.p c.N o t .test c.sc ec) = true then (match chkSs c a o sa, chkSs c b o sb with
      | some none, some r => some r
      | some r, some none => some r
      | some (some o1), some (some o2) => if o1 = o2 then some (some o1) else none
      | _, _ => none) else none
    | _ => none
  | .forr tg it b, o, st => match st with
    | .For etg eit body [] _ => if (itOk it etg eit && (chkTg c.N (locB c.sc) tg etg && (c.ex o && chk c.p c.N o it .it c.sc eit))) = true then (match chkSs c b (frzs o tg.slots) body with
      | some none => some (some o)
      | some (some o1) => if o1 = o then some (some o) else none
      | none => none) else none
    | _ => none
  | .whil t b, o, st => match st with
    | .While ec body [] _ => if (c.ex o && chk c.p c.N o t .test c.sc ec) = true then (match chkSs c b o body with
      | some none => some (some o)
      | some (some o1) => if o1 = o then some (some o) else none
      | none => none) else none
    | _ => none
  | .ret e, o, st => match st with
    | .Return (some ee) _ => if (c.ex o && retOk c o e ee) = true then some none else none
    | _ => none
  | .retN, o, st => match st with
    | .Return none _ => some none
    | _ => none
  | .pass, o, st => match st with
    | .Pass _ => some (some o)
    | _ => none
  | .frz _, _, _ => none
def chkSs (c : Cs) : List St → List Bool → List Stmt → Option (Option (List Bool))
  | [], o, sts => match sts with
    | [] => some (some o)
    | _ => none
  | s :: r, o, sts => match s.isFrz with
    | some is => chkSs c r (frzs o is) sts
    | none => match sts with
      | st :: sts => match chkS c s o st with
        | some (some o1) => chkSs c r o1 sts
        | some none => if r.isEmpty && sts.isEmpty then some none else none
        | none => none
      | [] => none
end
end VE

set_option Elab.async false
set_option linter.all false
set_option maxRecDepth 100000
set_option maxHeartbeats 4000000
/-! VE, part 13: every checked statement does what the evaluator tells. -/
namespace VE
open PySem PySem.Spec PyProof.Rows L2

structure XS (X : Cx) (u : Su) (c : Cs) (rc : Nat → List D → Sto → Res D) : Prop where
  xo : XO X u c.p rc c.sc
  N : X.N = c.N
  fn : ∀ x, X.fn x = true
  ps : PassesOwn (model X.prog X.w) X.A X.env X.xe
  bk : X.env.blockKind = .function
abbrev Su.at (u : Su) (o : List Bool) : Su := { u with o := o }
def Fits (r : Option (List Bool)) (o' : List Bool) : Prop := r = none ∨ r = some o'
section
variable {c : Cs} {rc : Nat → List D → Sto → Res D}
theorem XO.at_ {X : Cx} {u : Su} {p : Pg} {sc : Scope} (xo : XO X u p rc sc) (o : List Bool) : XO X (u.at o) p rc sc where
  nd := xo.nd
  scope := xo.scope
  calm := xo.calm
  un := xo.un
  gd := xo.gd
  K := xo.K
  gl := xo.gl
  bi := xo.bi
  fn := xo.fn
  mt := xo.mt
  cl := xo.cl
  dt := xo.dt
  takes := xo.takes
theorem XS.st {X : Cx} {u : Su} (xs : XS X u c rc) : StOk X (locB c.sc) where
  nd := xs.xo.nd
  calm := xs.xo.calm
  loc := fun x h => by
    unfold locB at h
    rw [Bool.or_eq_true, decide_eq_true_eq, decide_eq_true_eq] at h
    rw [xs.xo.scope]
    exact ⟨h, .inl (xs.fn x)⟩
def SubS (c : Cs) (rc : Nat → List D → Sto → Res D) (s : St) : Prop := ∀ {X : Cx} {u : Su}, XS X u c rc → ∀ (o : List Bool) {r : Option (List Bool)} {st : Stmt} {o' : List Bool}, chkS c s o st = some r → Fits r o' → PS X st (rS (u.at o) c.om o' c.rt (evS c.p.gl rc s))
def SubSs (c : Cs) (rc : Nat → List D → Sto → Res D) (s : List St) : Prop := ∀ {X : Cx} {u : Su}, XS X u c rc → ∀ (o : List Bool) {r : Option (List Bool)} {st : List Stmt} {o' : List Bool}, chkSs c s o st = some r → Fits r o' → PSs X st (rS (u.at o) c.om o' c.rt (evSs c.p.gl rc s))
theorem fits_some {o1 o' : List Bool} (h : Fits (some o1) o') : o1 = o' := by
  rcases h with h | h <;> cases h
  rfl
theorem XS.use {X : Cx} {u : Su} (xs : XS X u c rc) {o : List Bool} {e : T} {ee : Expr} (h : chk c.p c.N o e .use c.sc ee = true) : PE X ee (rN (u.at o) (frT c.p e) (evE c.p.gl rc e)) := by
  rw [← xs.N] at h
  exact sE e (xs.xo.at_ o) .use h
theorem XS.useE {X : Cx} {u : Su} (xs : XS X u c rc) {o : List Bool} {e : T} {ee : Expr} (h : chk c.p c.N o e .use c.sc ee = true) : PE X ee (rE (u.at o) (evE c.p.gl rc e)) := PE.frozen (xs.use h)
theorem XS.peek {X : Cx} {u : Su} (xs : XS X u c rc) {o : List Bool} {e : T} {ee : Expr} (h : chk c.p c.N o e .peek c.sc ee = true) : PE X ee (rP (u.at o) (evE c.p.gl rc e)) := by
  rw [← xs.N] at h
  exact sE e (xs.xo.at_ o) .peek h
theorem XS.test {X : Cx} {u : Su} (xs : XS X u c rc) {o : List Bool} {e : T} {ee : Expr} (h : chk c.p c.N o e .test c.sc ee = true) : PT X ee (rT (u.at o) fun env S => (evE c.p.gl rc e env S).bind tru) := by
  rw [← xs.N] at h
  exact sE e (xs.xo.at_ o) .test h
theorem ex_of {o : List Bool} (h : c.ex o = true) : frzs o c.fz = c.om := by
  unfold Cs.ex at h
  rwa [decide_eq_true_eq] at h
theorem sw_false {ee : Expr} {t : Option Expr} {k : Nat} {env : PySem.Env} (h : notLc ee = true) : swapsWith ee t k env = pure false := by
  cases ee <;> first | rfl | cases h
theorem s_setLc {X : Cx} {u : Su} (xs : XS X u c rc) {o : List Bool} {e : T} {ee : Expr} {i : Nat} {x : Str} {py spos : Pos} (hi : c.N[i]? = some x) (hl : locB c.sc x = true) (hlo : i < o.length) (hx : c.ex o = true) (hcp : (notLc ee || isComp e) = true) (h : chk c.p c.N o e .use c.sc ee = true) :
    PS X (.Assign [.Name x py] ee spos) (tAsg (rN (u.at o) (frT c.p e) (evE c.p.gl rc e)) (gName i)) := by
  have hi' : X.N[i]? = some x := by rw [xs.N]; exact hi
  obtain ⟨h1, h2⟩ := xs.st.loc x hl
  by_cases hc : notLc ee = true
  · exact ps_set xs.xo.nd hi' h1 (xs.use h) (sw_false hc) h2
  · cases ee <;> first | exact absurd rfl hc | skip
    · rename_i elt gens scope pos
      by_cases sw : (X.env.blockKind == .function && X.env.kindOf x == some .local && py.line == pos.line && !(scope.names.any fun (n, k) => n == x && (k == .local || k == .cell))) = true
      · replace hcp : isComp e = true := hcp
        cases e <;> first | exact absurd hcp Bool.false_ne_true | exact absurd h Bool.false_ne_true | skip
        rename_i d tg it cs
        have h0 := h
        unfold chk at h
        split at h
        · rename_i ee' etg eit eifs scope' pos' heq
          cases heq
          simp only [Bool.and_eq_true, decide_eq_true_eq] at h
          obtain ⟨k1, k2, k3, k4, k5, k6, k7, k8⟩ := h
          have hb := blkOk_by k2
          rw [← xs.N, ← xs.xo.scope] at hb
          rw [← xs.N] at k3 k5 k7 k8
          have xo := xs.xo.at_ o
          have lx : X.env.scope.names.lookup x = some .local := by
            simp only [Bool.and_eq_true] at sw
            have q := sw.1.1.2
            have q : (X.env.scope.names.lookup x == some NameKind.local) = true := q
            simpa using q
          have q := ps_setLc (X := X) (py := py) (spos := spos) (pos := pos) xs.xo.calm xs.xo.nd hi' lx (by
              have e0 : swapsWith (.ListComp elt [⟨etg, eit, eifs, 0⟩] scope pos) (some (.Name x py)) spos.line X.env = pure (X.env.blockKind == .function && X.env.kindOf x == some .local && py.line == pos.line && !(scope.names.any fun (n, k) => n == x && (k == .local || k == .cell))) := rfl
              rw [e0, sw]) (sE it xo .it k5 etg (itOk_inv k4)) hb
            (fun s H C cl fp => pgT (u := (u.at o).blk) (stOk_blk xo s H C cl fp) tg xo.K k3) (fun s H C cl fp => (sEs cs).cs (xo.blk s H C cl fp) k6 k7) (fun s H C cl fp => ok_use (sE d (xo.blk s H C cl fp) .use k8)) (fun x => set_free k4 k5 X.env x)
          rw [ownC_map] at q
          refine q.imp fun E σ H z => ?_
          exact lc_read k1 z
        · cases h
      · have sw : (X.env.blockKind == .function && X.env.kindOf x == some .local && py.line == pos.line && !(scope.names.any fun (n, k) => n == x && (k == .local || k == .cell))) = false := Bool.eq_false_iff.mpr sw
        have e0 : swapsWith (.ListComp elt gens scope pos) (some (.Name x py)) spos.line X.env = pure (X.env.blockKind == .function && X.env.kindOf x == some .local && py.line == pos.line && !(scope.names.any fun (n, k) => n == x && (k == .local || k == .cell))) := rfl
        rw [sw] at e0
        exact ps_set xs.xo.nd hi' h1 (xs.use h) e0 h2
    · replace hcp : isComp e = true := hcp
      cases e <;> first | exact absurd hcp Bool.false_ne_true | exact absurd h Bool.false_ne_true
    · replace hcp : isComp e = true := hcp
      cases e <;> first | exact absurd hcp Bool.false_ne_true | exact absurd h Bool.false_ne_true
theorem s_asg (i : Nat) (e : T) : SubS c rc (.asg i e) := fun {X u} xs o {r st o'} h ft => by
  unfold chkS at h
  split at h
  · split at h
    · cases h
      rename_i x _ ee _ hh
      simp only [Bool.and_eq_true, decide_eq_true_eq] at hh
      obtain ⟨h1, h2, h3, h4, hcp, h5⟩ := hh
      have e0 := fits_some ft
      subst e0
      refine (s_setLc xs h1 h2 h3 h4 hcp h5).imp fun E σ H ⟨g, env, S, sr, p⟩ => ?_
      have p : PostS (u.at o) c.om _ c.rt g ((evE c.p.gl rc e env S).outs env fun d S => .nx (env.set i (some d)) S) E := p
      exact bindN sr (ex_of h4) p fun d v S1 g1 H1 b1 f1 n1 p1 => p1 _ H1 g1 (sr.storeNew1 f1 b1 n1 h3) (GhLe.refl g1)
    · cases h
  · cases h
theorem fm_short {α β : Type} {f : α → Option β} : ∀ {l : List α}, (l.filterMap f).length ≤ l.length ∧ ((∃ x ∈ l, f x = none) → (l.filterMap f).length < l.length)
  | [] => ⟨Nat.le_refl _, fun ⟨_, h, _⟩ => nomatch h⟩
  | y :: l => by
    obtain ⟨h1, h2⟩ := fm_short (f := f) (l := l)
    rw [List.filterMap_cons]
    cases e : f y with
    | none =>
      refine ⟨Nat.le_succ_of_le h1, fun _ => ?_⟩
      show _ < l.length + 1
      exact Nat.lt_succ_of_le h1
    | some z =>
      refine ⟨Nat.succ_le_succ h1, fun ⟨x, hx, q⟩ => ?_⟩
      rcases List.mem_cons.mp hx with rfl | hx
      · rw [e] at q
        cases q
      · exact Nat.succ_lt_succ (h2 ⟨x, hx, q⟩)
theorem sw_none {X : Cx} {u : Su} (xs : XS X u c rc) {etg ee : Expr} (h1 : isTup etg = true) (h : (notTup ee || capt c.sc etg ee) = true) : swappedStores [etg] ee X.env = pure none := by
  cases etg <;> first | exact absurd h1 Bool.false_ne_true | skip
  rename_i ts k p
  by_cases hn : notTup ee = true
  · cases ee <;> first | exact absurd hn Bool.false_ne_true | rfl
  · cases ee <;> first | exact absurd rfl hn | skip
    rename_i vs k2 p2
    have hc : (ts.any fun x => match x with
      | .Name y _ => !lo c.sc y
      | _ => false) = true := h
    obtain ⟨x, hx, hy⟩ := List.any_eq_true.mp hc
    cases x <;> first | exact absurd hy Bool.false_ne_true | skip
    rename_i y pos
    have nl : X.env.kindOf y ≠ some .local := fun e => by
      have e : X.env.scope.names.lookup y = some .local := e
      rw [xs.xo.scope] at e
      simp only [lo, e, decide_true, Bool.not_true, Bool.false_eq_true] at hy
    unfold swappedStores
    dsimp only
    split
    · rfl
    · split
      · rfl
      · rw [if_pos]
        rw [Bool.or_eq_true]
        refine .inl ?_
        rw [bne_iff_ne]
        refine Nat.ne_of_lt ((fm_short (l := ts)).2 ⟨_, hx, ?_⟩)
        dsimp only
        rw [if_neg]
        intro z
        rw [Bool.and_eq_true] at z
        exact nl (by simpa using z.1)
theorem s_asgT (tg : Tg) (e : T) : SubS c rc (.asgT tg e) := fun {X u} xs o {r st o'} h ft => by
  unfold chkS at h
  split at h
  · split at h
    · cases h
      rename_i etg ee pos hh
      simp only [Bool.and_eq_true] at hh
      obtain ⟨h1, h2, h3, h4, h5⟩ := hh
      have e0 := fits_some ft
      subst e0
      rw [← xs.N] at h3
      have q := ps_asg (pos := pos) (xs.useE h5) (pgT xs.st tg (u := u.at o) xs.xo.K h3) (by
          cases etg <;> first | exact absurd h1 Bool.false_ne_true | skip
          cases ee <;> rfl) (sw_none xs h1 h2) (by cases etg <;> first | exact absurd h1 Bool.false_ne_true | rfl)
      refine q.imp fun E σ H ⟨g, env, S, sr, p⟩ => ?_
      have p : PostS (u.at o) c.om _ c.rt g ((evE c.p.gl rc e env S).outs env fun d S => match Tg.set tg d env with
        | some env => .nx env S
        | none => .err) E := p
      refine bindNE sr (ex_of h4) p fun d v S1 g1 H1 s1 f1 n1 p1 => ?_
      cases q : Tg.set tg d env with
      | none =>
        rw [q] at p1
        exact p1.elim
      | some env' =>
        rw [q] at p1
        exact ⟨g1, env, S1, d, env', s1, n1, q, fun σ' s2 _ _ => p1 σ' H1 g1 s2 (GhLe.refl g1)⟩
    · cases h
  · cases h
theorem s_expr (e : T) : SubS c rc (.expr e) := fun {X u} xs o {r st o'} h ft => by
  unfold chkS at h
  split at h
  · split at h
    · cases h
      rename_i ee pos hh
      simp only [Bool.and_eq_true] at hh
      obtain ⟨h1, h2, h3⟩ := hh
      have e0 := fits_some ft
      subst e0
      refine (ps_expr (xs.useE h3) (sw_false h1)).imp fun E σ H ⟨g, env, S, sr, p⟩ => ?_
      have p : PostS (u.at o) c.om o c.rt g ((evE c.p.gl rc e env S).outs env fun _ S => .nx env S) E := p
      exact bindNE sr (ex_of h2) p fun d v S1 g1 H1 s1 f1 n1 p1 => p1 σ H1 g1 s1 (GhLe.refl g1)
    · cases h
  · cases h
theorem pvs {X : Cx} {u : Su} (xs : XS X u c rc) {i : Nat} {x : Str} {pos : Pos} (h1 : c.N[i]? = some x) (h2 : visB c.sc x = true) (h3 : plainN x = true) : PE X (.Name x pos) (tVar i) :=
  pe_var (by rw [xs.N]; exact h1) (visOf xs.xo h2) (plain_of h3).1 (plain_of h3).2.1
theorem few_ok {X : Cx} {e : Expr} {cpos : Pos} (h : notStar e = true) : ((backTo cpos (starEach [e] X.env)).all (fun x => !x.1) && (backToKw cpos (keywordEach [] X.env)).all (fun x => x.1.isSome)
      && decide ([e].length + ([] : List Keyword).length + (if ([] : List Keyword).isEmpty then 0 else 1) < 30)) = true := by
  rw [star_cons h]
  rfl
theorem few_ok2 {X : Cx} {e e2 : Expr} {cpos : Pos} (h : notStar e = true) (h2 : notStar e2 = true) : ((backTo cpos (starEach [e, e2] X.env)).all (fun x => !x.1) && (backToKw cpos (keywordEach [] X.env)).all (fun x => x.1.isSome)
      && decide ([e, e2].length + ([] : List Keyword).length + (if ([] : List Keyword).isEmpty then 0 else 1) < 30)) = true := by
  rw [star_cons h, star_cons h2]
  rfl
theorem s_app (i : Nat) (e : T) : SubS c rc (.app i e) := fun {X u} xs o {r st o'} h ft => by
  unfold chkS at h
  split at h
  · split at h
    · cases h
      rename_i x xp nm apos ee cpos spos hh
      simp only [Bool.and_eq_true, decide_eq_true_eq] at hh
      obtain ⟨rfl, h1, h2, h3, h4, h5, h6, h7, h8⟩ := hh
      have e0 := fits_some ft
      subst e0
      have q : PE X (.Call (.Attribute (.Name x xp) "append" apos) [ee] [] cpos) _ := pe_bm PySem.F.plainAttrs_list PySem.F.slot_list_append PySem.F.type_list_append mt_append (pvs xs h1 h2 h3) (pa_cons (xs.useE h8) pa_nil (star_cons h6 _ _)) (attr_base rfl _ _ _) (few_ok h6) h5 (star_cons h6 _ _) rfl
      refine (ps_expr q (sw_false rfl)).imp fun E σ H ⟨g, env, S, sr, p⟩ => ?_
      have p : PostS (u.at o) c.om o c.rt g (match env[i]? with
        | some (some (.lst xs)) => (evE c.p.gl rc e env S).outs env fun d S => if xs.length < sizeLine then .nx (env.set i (some (.lst (xs ++ [d])))) S else .err
        | _ => .err) E := p
      split at p
      · rename_i ds eds
        obtain ⟨a, vs, k1, k2, k3, k4, k5, k6⟩ := sr.ownLst h4 eds
        refine ⟨_, k1, .inl ⟨rfl, vs, .inl (.inl k2)⟩, bindNE sr (ex_of h7) p fun d v S1 g1 H1 s1 f1 n1 p1 => ?_⟩
        obtain ⟨a', vs', k1', k2', k3', k4', k5', k6'⟩ := s1.ownLst h4 eds
        rw [k1] at k1'
        cases k1'
        split at p1
        · rename_i lt
          refine ⟨a, vs', v, rfl, rfl, k2', by rw [k4'.length]; exact lt, ?_⟩
          refine p1 σ _ g1 (s1.updOwn h4 eds k1 (k4'.append (.cons n1 .nil)) ?_) (GhLe.refl g1)
          rw [List.length_append, k4'.length]
          exact lt
        · exact p1.elim
      · exact p.elim
    · cases h
  · cases h
theorem s_extd (i : Nat) (e : T) : SubS c rc (.extd i e) := fun {X u} xs o {r st o'} h ft => by
  unfold chkS at h
  split at h
  · split at h
    · cases h
      rename_i x xp nm apos ee cpos spos hh
      simp only [Bool.and_eq_true, decide_eq_true_eq] at hh
      obtain ⟨rfl, h1, h2, h3, h4, h5, h6, h7, h8⟩ := hh
      have e0 := fits_some ft
      subst e0
      have q : PE X (.Call (.Attribute (.Name x xp) "extend" apos) [ee] [] cpos) _ := pe_bm PySem.F.plainAttrs_list PySem.F.slot_list_extend PySem.F.type_list_extend mt_extend (pvs xs h1 h2 h3) (pa_cons (xs.peek h8) pa_nil (star_cons h6 _ _)) (attr_base rfl _ _ _) (few_ok h6) h5 (star_cons h6 _ _) rfl
      refine (ps_expr q (sw_false rfl)).imp fun E σ H ⟨g, env, S, sr, p⟩ => ?_
      have p : PostS (u.at o) c.om o c.rt g (match env[i]? with
        | some (some (.lst xs)) => (evE c.p.gl rc e env S).outs env fun d S => match d with
          | .lst ys => if xs.length + ys.length ≤ sizeLine then .nx (env.set i (some (.lst (xs ++ ys)))) S else .err
          | _ => .err
        | _ => .err) E := p
      split at p
      · rename_i ds eds
        obtain ⟨a, vs, k1, k2, k3, k4, k5, k6⟩ := sr.ownLst h4 eds
        refine ⟨_, k1, .inl ⟨rfl, vs, .inl (.inl k2)⟩, bindNP sr (ex_of h7) p fun d v S1 g1 H1 s1 f1 n1 p1 => ?_⟩
        obtain ⟨a', vs', k1', k2', k3', k4', k5', k6'⟩ := s1.ownLst h4 eds
        rw [k1] at k1'
        cases k1'
        cases d <;> first | exact p1.elim | skip
        obtain ⟨b, ws, rfl, m1, m2, m3⟩ := n1.lst_inv s1.bs.sub
        dsimp only at p1
        split at p1
        · rename_i lt
          have lt' : vs'.length + ws.length ≤ sizeLine := by rw [k4'.length, m3.length]; exact lt
          refine ⟨a, b, vs', ws, rfl, rfl, k2', m1, lt', ?_⟩
          refine p1 σ _ g1 (s1.updOwn h4 eds k1 (k4'.append m3) ?_) (GhLe.refl g1)
          rw [List.length_append]
          exact lt'
        · exact p1.elim
      · exact p.elim
    · cases h
  · cases h
theorem s_insr (i : Nat) (a e : T) : SubS c rc (.insr i a e) := fun {X u} xs o {r st o'} h ft => by
  unfold chkS at h
  split at h
  · split at h
    · cases h
      rename_i x xp nm apos ea ee cpos spos hh
      simp only [Bool.and_eq_true, decide_eq_true_eq] at hh
      obtain ⟨rfl, h1, h2, h3, h4, h5, h6, h6', h7, h8, h9⟩ := hh
      have e0 := fits_some ft
      subst e0
      have q : PE X (.Call (.Attribute (.Name x xp) "insert" apos) [ea, ee] [] cpos) _ := pe_bm PySem.F.plainAttrs_list PySem.F.slot_list_insert PySem.F.type_list_insert mt_insert (pvs xs h1 h2 h3) (pa_cons (xs.peek h8) (pa_cons (xs.useE h9) pa_nil (star_cons h6' _ _)) (star_cons h6 _ _)) (attr_base rfl _ _ _) (few_ok2 h6 h6') h5 (star_cons h6 _ _) (by rw [star_cons h6']; rfl)
      refine (ps_expr q (sw_false rfl)).imp fun E σ H ⟨g, env, S, sr, p⟩ => ?_
      have p : PostS (u.at o) c.om o c.rt g (match env[i]? with
        | some (some (.lst xs)) => (evE c.p.gl rc a env S).outs env fun k S => (evE c.p.gl rc e env S).outs env fun d S => match k with
          | .int k => if xs.length < sizeLine ∧ 0 ≤ k ∧ k < 2 ^ 63 then .nx (env.set i (some (.lst (xs.take k.toNat ++ [d] ++ xs.drop k.toNat)))) S else .err
          | _ => .err
        | _ => .err) E := p
      split at p
      · rename_i ds eds
        obtain ⟨ad, vs, k1, k2, k3, k4, k5, k6⟩ := sr.ownLst h4 eds
        refine ⟨_, k1, .inl ⟨rfl, vs, .inl (.inl k2)⟩, bindNP sr (ex_of h7) p fun k vk S1 g1 H1 s1 f1 n1 p1 => bindNE s1 (ex_of h7) p1 fun d v S2 g2 H2 s2 f2 n2 p2 => ?_⟩
        obtain ⟨a', vs', k1', k2', k3', k4', k5', k6'⟩ := s2.ownLst h4 eds
        rw [k1] at k1'
        cases k1'
        cases k <;> first | exact p2.elim | skip
        dsimp only at p2
        split at p2
        · rename_i lt
          refine ⟨ad, vs', _, v, rfl, by rw [n1.int_inv], k2', by rw [k4'.length]; exact lt.1, lt.2.1, lt.2.2, ?_⟩
          refine p2 σ _ g2 (s2.updOwn h4 eds k1 (((k4'.take _).append (.cons n2 .nil)).append (k4'.drop _)) ?_) (GhLe.refl g2)
          simp only [List.length_append, List.length_take, List.length_drop, List.length_cons, List.length_nil]
          have := lt.1
          rw [← k4'.length] at this
          omega
        · exact p2.elim
      · exact p.elim
    · cases h
  · cases h
theorem s_setI (i : Nat) (k e : T) : SubS c rc (.setI i k e) := fun {X u} xs o {r st o'} h ft => by
  unfold chkS at h
  split at h
  · split at h
    · cases h
      rename_i x xp ek spos ee pos hh
      simp only [Bool.and_eq_true, decide_eq_true_eq] at hh
      obtain ⟨h1, h2, h3, h4, h5, h7, h8, h9⟩ := hh
      have e0 := fits_some ft
      subst e0
      have q := ps_asg (pos := pos) (xs.useE h8) (pg_sub (pos := spos) (pvs (pos := xp) xs h1 h2 h3) (xs.peek h9) set_list (fun v => by cases ek <;> first | exact absurd h5 Bool.false_ne_true | rfl)) (by cases ee <;> rfl) rfl rfl
      refine q.imp fun E σ H ⟨g, env, S, sr, p⟩ => ?_
      have p : PostS (u.at o) c.om o c.rt g ((evE c.p.gl rc e env S).outs env fun d S => match env[i]? with
        | some (some (.lst xs)) => (evE c.p.gl rc k env S).outs env fun k S => match k with
          | .int k => match ixN xs.length k with
            | some j => .nx (env.set i (some (.lst (xs.set j d)))) S
            | none => .err
          | _ => .err
        | _ => .err) E := p
      refine bindNE sr (ex_of h7) p fun d v S1 g1 H1 s1 f1 n1 p1 => ?_
      split at p1
      · rename_i ds eds
        obtain ⟨a, vs, k1, k2, k3, k4, k5, k6⟩ := s1.ownLst h4 eds
        refine ⟨_, k1, bindNP s1 (ex_of h7) p1 fun kd kv S2 g2 H2 s2 f2 n2 p2 => ?_⟩
        obtain ⟨a', vs', k1', k2', k3', k4', k5', k6'⟩ := s2.ownLst h4 eds
        rw [k1] at k1'
        cases k1'
        cases kd <;> first | exact p2.elim | skip
        dsimp only at p2
        split at p2
        · rename_i j hj
          refine ⟨a, vs', _, j, rfl, n2.int_inv, k2', by rw [k4'.length]; exact hj, ?_⟩
          refine p2 σ _ g2 (s2.updOwn h4 eds k1 (k4'.set (n1.mono f2.le) j) ?_) (GhLe.refl g2)
          rw [List.length_set]
          exact k3'
        · exact p2.elim
      · exact p1.elim
    · cases h
  · cases h
theorem box_addr {K : PySem.W.Frag} {ca : Nat → Addr} {g0 g : Gh} {H0 H : Hp} {o : List Bool} {env : Env} {S : Sto} {σ : L2.St} {n : Nat} {a : Addr} {xs : List D} (s : SR K ca g0 H0 o g env S σ H) (ea : g.at_ n = some a) (es : S[n]? = some (.box (.lst xs))) : ∃ vs, H a = some (.lst vs) ∧ vs.length ≤ sizeLine ∧ Reps K ca g vs xs := by
  unfold Gh.at_ at ea
  cases q : g.A[n]? with
  | none =>
    rw [q] at ea
    cases ea
  | some l =>
    rw [q] at ea
    obtain ⟨a', rfl, vs, h1, h2, h3⟩ := s.bs.cell n l _ q es
    have e : a' = a := by simpa using ea
    subst e
    exact ⟨vs, h1, h2, h3⟩
theorem s_bset (b k e : T) : SubS c rc (.bset b k e) := fun {X u} xs o {r st o'} h ft => by
  unfold chkS at h
  split at h
  · split at h
    · cases h
      rename_i eb ek spos ee pos hh
      simp only [Bool.and_eq_true] at hh
      obtain ⟨h5, h7, h8, h9, h10⟩ := hh
      have e0 := fits_some ft
      subst e0
      have q := ps_asg (pos := pos) (xs.useE h8) (pg_sub (pos := spos) (xs.peek h9) (xs.peek h10) set_list (fun v => by cases ek <;> first | exact absurd h5 Bool.false_ne_true | rfl)) (by cases ee <;> rfl) rfl rfl
      refine q.imp fun E σ H ⟨g, env, S, sr, p⟩ => ?_
      have p : PostS (u.at o) c.om o c.rt g ((evE c.p.gl rc e env S).outs env fun d S => (evE c.p.gl rc b env S).outs env fun o S => (evE c.p.gl rc k env S).outs env fun k S => match o, k with
        | .obj n, .int k => match S[n]? with
          | some (.box (.lst xs)) => match ixN xs.length k with
            | some j => .nx env (S.set n (.box (.lst (xs.set j d))))
            | none => .err
          | _ => .err
        | _, _ => .err) E := p
      refine bindNE sr (ex_of h7) p fun d v S1 g1 H1 s1 f1 n1 p1 => bindNP s1 (ex_of h7) p1 fun od ov S2 g2 H2 s2 f2 n2 p2 => bindNP s2 (ex_of h7) p2 fun kd kv S3 g3 H3 s3 f3 n3 p3 => ?_
      cases od <;> cases kd <;> first | exact p3.elim | skip
      dsimp only at p3
      split at p3
      · rename_i xs eS
        split at p3
        · rename_i j hj
          obtain ⟨a, e1, e2⟩ := ((n2.fr f3).rep rfl).obj_inv
          obtain ⟨vs, m1, m2, m3⟩ := box_addr s3 e2 eS
          refine ⟨a, vs, _, j, e1, n3.int_inv, m1, by rw [m3.length]; exact hj, ?_⟩
          refine p3 σ _ g3 (s3.updBox e2 eS (m3.set (n1.mono (f2.trans f3).le) j) ?_) (GhLe.refl g3)
          rw [List.length_set]
          exact m2
        · exact p3.elim
      · exact p3.elim
    · cases h
  · cases h
theorem s_aug (i : Nat) (sb : Bool) (e : T) : SubS c rc (.aug i sb e) := fun {X u} xs o {r st o'} h ft => by
  unfold chkS at h
  split at h
  · split at h
    · cases h
      rename_i x xp op ee pos hh
      simp only [Bool.and_eq_true, decide_eq_true_eq] at hh
      obtain ⟨rfl, h1, h2, h3, h4⟩ := hh
      have e0 := fits_some ft
      subst e0
      obtain ⟨l1, l2⟩ := xs.st.loc x h2
      have key : ∀ E σ H, rS (u.at o) c.om (o.set i false) c.rt (evS c.p.gl rc (.aug i sb e)) E σ H → tAug i (rP (u.at o) (evE c.p.gl rc e)) (ipI fun a b => if sb then a - b else a + b) E σ H := fun E σ H ⟨g, env, S, sr, p⟩ => by
        have p : PostS (u.at o) c.om (o.set i false) c.rt g (match env[i]? with
          | some (some (.int a)) => (evE c.p.gl rc e env S).outs env fun y S => match y with
            | .int b => .nx (env.set i (some (.int (if sb then a - b else a + b)))) S
            | _ => .err
          | _ => .err) E := p
        split at p
        · rename_i a ea
          obtain ⟨v, k1, k2⟩ := sr.slot i _ ea
          rw [SlotOk.frz_ (by simp [D.isMut])] at k2
          cases k2
          refine ⟨_, k1, bindNP sr (ex_of h3) p fun d w S1 g1 H1 s1 f1 n1 p1 => ?_⟩
          cases d <;> first | exact p1.elim | skip
          exact ⟨a, _, rfl, n1.int_inv, p1 _ H1 g1 (s1.store i (.int _)) (GhLe.refl g1)⟩
        · exact p.elim
      have hi : X.N[i]? = some x := by rw [xs.N]; exact h1
      cases sb with
      | false => exact (ps_aug (ti := ipI fun a b => if false = true then a - b else a + b) xs.xo.nd hi l1 (xs.peek h4) ip_add l2).imp key
      | true => exact (ps_aug (ti := ipI fun a b => if true = true then a - b else a + b) xs.xo.nd hi l1 (xs.peek h4) ip_sub l2).imp key
    · cases h
  · cases h
theorem s_bad_ : SubS c rc .bad := fun {X u} xs o {r st o'} h ft => ⟨fun pins s σ H E I ⟨g, env, S, sr, p⟩ => p.elim⟩
theorem fld_of_ {X : Cx} {u : Su} (xs : XS X u c rc) {k i : Nat} {x nm : Str} {eo : Expr} {ap : Pos} (h : fldB c.p c.N k i x c.sc (.Attribute eo nm ap) = true) : nm = x ∧ Cls X.K (u.ca k) ∧ NoAttr X.K (u.ca k) x ∧ PE X eo (tVar i) ∧ PE X (.Attribute eo nm ap) (tFld X.K (tVar i) x) := by
  rw [← xs.N] at h
  obtain ⟨h1, h2, _, h4⟩ := fld_of (u := u) xs.xo h
  unfold fldB at h
  simp only [Bool.and_eq_true, decide_eq_true_eq] at h
  obtain ⟨k1, rfl, _⟩ := h
  obtain ⟨y, yp, rfl, q⟩ := slot_of xs.xo k1
  exact ⟨rfl, h1, h2, q, h4⟩
theorem cell_nd {K : PySem.W.Frag} {ca : Nat → Addr} {g : Gh} {H : Hp} {S : Sto} {n : Nat} {as : List Addr} (b : Bs K ca g S H) (q : g.A[n]? = some as) : as.Nodup := by
  have : ∀ {A : List (List Addr)}, A.flatten.Nodup → as ∈ A → as.Nodup := fun {A} => by
    induction A with
    | nil => exact fun _ h => nomatch h
    | cons l A ih =>
      intro h m
      rw [List.flatten_cons] at h
      obtain ⟨h1, h2, h3⟩ := List.nodup_append.mp h
      rcases List.mem_cons.mp m with z | z
      · rw [z]
        exact h1
      · exact ih h2 z
  exact this b.nd (List.mem_of_getElem? q)
theorem s_fset (k i : Nat) (x : Str) (fr : Bool) (e : T) : SubS c rc (.fset k i x fr e) := fun {X u} xs o {r st o'} h ft => by
  unfold chkS at h
  split at h
  · split at h
    · cases h
      rename_i eo nm ap ee pos hh
      simp only [Bool.and_eq_true] at hh
      obtain ⟨h1, h2, h3, h7, h8⟩ := hh
      have e0 := fits_some ft
      subst e0
      obtain ⟨rfl, hc, hn, he, _⟩ := fld_of_ xs h3
      refine (ps_fld (pos := pos) (pos' := ap) he (xs.use h8) (sw_false h2)).imp fun E σ H ⟨g, env, S, sr, p⟩ => ?_
      have p : PostS (u.at o) c.om o c.rt g ((evE c.p.gl rc e env S).outs env fun d S => if d.isMut = true ∧ fr = false then .err else match insOf env S k i with
        | some (n, fs) => if fs.length < 900 then .nx env (S.set n (.ins k (putD nm d fs))) else .err
        | none => .err) E := p
      refine bindN sr (ex_of h7) p fun d v S1 g1 H1 b1 f1 n1 p1 => ?_
      have s1 := sr.next f1 b1
      split at p1
      · exact p1.elim
      · rename_i hm
        split at p1
        · rename_i n fs hi
          split at p1
          · rename_i lt
            obtain ⟨a, dx, ls, fv, e1, e2, e3, e4, e5, e6, e7⟩ := ins_at s1 hi
            have fv_len : fv.length = fs.length := by
              have := congrArg List.length e7.names
              rwa [List.length_map, List.length_map] at this
            refine ⟨_, e3, a, _, dx, fv, rfl, e5, hc, hn, by omega, ?_⟩
            have nd := cell_nd s1.bs e4
            have nd1 := List.nodup_cons.mp nd
            have nd2 := List.nodup_cons.mp nd1.2
            have ne : dx ≠ a := fun z => nd1.1 (by rw [z]; exact List.mem_cons_self)
            have hup : ∀ b, b ≠ a → (upd H1 a (.ins (u.ca k) dx (putF nm v fv))) b = H1 b := fun b hb => upd_ne hb
            have fin : ∀ ls', ls'.Nodup → (∀ b ∈ ls', b ∈ ls ∨ (u.H0 b = none ∧ g1.G b = none ∧ ¬ g1.fp b ∧ ∀ j dj, env[j]? = some (some dj) → (own o j && dj.isMut) = true → σ[j]? ≠ some (some (.ref b)))) → Flds u.K u.ca g1 H1 ls' (putF nm v fv) (putD nm d fs) →
                E.nx σ (upd H1 a (.ins (u.ca k) dx (putF nm v fv))) := fun ls' nd' inn fl => by
              have nfa : ∀ b ∈ ls', b ≠ a ∧ b ≠ dx := fun b hb => by
                rcases inn b hb with z | ⟨_, _, z, _⟩
                · exact ⟨fun y => nd1.1 (by rw [← y]; exact List.mem_cons_of_mem _ z), fun y => nd2.1 (by rw [← y]; exact z)⟩
                · exact ⟨fun y => z (by rw [y]; exact ⟨_, List.mem_of_getElem? e4, List.mem_cons_self⟩), fun y => z (by rw [y]; exact ⟨_, List.mem_of_getElem? e4, List.mem_cons_of_mem _ List.mem_cons_self⟩)⟩
              have le := setA_le (as' := a :: dx :: ls') e4 rfl
              refine p1 σ _ (g1.setA n (a :: dx :: ls')) (s1.updCell e4 e2 rfl ?_ (fun b hb => ?_) (fun b hb => hup b fun z => hb (by rw [z]; exact List.mem_cons_self)) (fun b hb => ?_) ⟨a, dx, ls', _, rfl, upd_same, by rw [hup dx ne]; exact e6, fl.mono le fun b hb => hup b (nfa b hb).1⟩) le
              · refine List.nodup_cons.mpr ⟨fun z => ?_, List.nodup_cons.mpr ⟨fun z => (nfa dx z).2 rfl, nd'⟩⟩
                rcases List.mem_cons.mp z with z | z
                · exact ne z.symm
                · exact (nfa a z).1 rfl
              · rcases List.mem_cons.mp hb with z | hb
                · exact .inl (by rw [z]; exact List.mem_cons_self)
                · rcases List.mem_cons.mp hb with z | hb
                  · exact .inl (by rw [z]; exact List.mem_cons_of_mem _ List.mem_cons_self)
                  · exact (inn b hb).imp (fun z => List.mem_cons_of_mem _ (List.mem_cons_of_mem _ z)) id
              · by_cases z : b = a
                · rw [z, upd_same]
                  simp
                · rw [hup b z]
                  exact hb
            cases z : d.isMut with
            | false =>
              have rv : Rep u.K u.ca g1 v d := by
                cases hf : frT c.p e with
                | true =>
                  rw [hf] at n1
                  have n1 : NewD u.K u.ca H g1 H1 v d := n1
                  rwa [NewD.imm z] at n1
                | false =>
                  rw [hf] at n1
                  exact n1
              obtain ⟨ls', k1, k2⟩ := e7.put_imm (x := nm) z rv
              exact fin ls' (k1.nodup nd2.2) (fun b hb => .inl (k1.subset hb)) k2
            | true =>
              have hfr : fr = true := by
                cases fr with
                | true => rfl
                | false => exact absurd ⟨z, rfl⟩ hm
              subst hfr
              have h1 : frT c.p e = true := by simpa using h1
              rw [h1] at n1
              have n1 : NewD u.K u.ca H g1 H1 v d := n1
              rw [NewD.mut z] at n1
              obtain ⟨l, rfl, m1, m2, m3, m4⟩ := n1
              have nl : l ∉ ls := fun y => m3 ⟨_, List.mem_of_getElem? e4, List.mem_cons_of_mem _ (List.mem_cons_of_mem _ y)⟩
              obtain ⟨ls', k1, k2, k3⟩ := e7.put_own (x := nm) m4 nl nd2.2
              refine fin ls' k1 (fun b hb => (k2 b hb).imp id fun y => ?_) k3
              subst y
              refine ⟨?_, m2, m3, fun j dj q1 q2 q3 => sr.slot_there q1 q2 q3 m1⟩
              cases q : u.H0 b with
              | none => rfl
              | some y => exact absurd m1 (sr.fr.dom b (by rw [q]; simp))
          · exact p1.elim
        · exact p1.elim
    · cases h
  · cases h
theorem var_pe {X : Cx} {u : Su} (xs : XS X u c rc) {o : List Bool} {j : Nat} {ee : Expr} {md : Md} (h : chk c.p c.N o (.v j) md c.sc ee = true) : PE X ee (tVar j) := by
  unfold chk at h
  split at h
  · simp only [Bool.and_eq_true, decide_eq_true_eq] at h
    exact pvs xs h.1 h.2.1 h.2.2.1
  · cases h
theorem s_fapp (k i : Nat) (x : Str) (j : Nat) : SubS c rc (.fapp k i x j) := fun {X u} xs o {r st o'} h ft => by
  unfold chkS at h
  split at h
  · split at h
    · cases h
      rename_i eo nm ap mn apos ee cpos spos hh
      simp only [Bool.and_eq_true, decide_eq_true_eq] at hh
      obtain ⟨rfl, h3, h5, h6, h7, h8⟩ := hh
      have e0 := fits_some ft
      subst e0
      obtain ⟨rfl, hc, hn, _, he⟩ := fld_of_ xs h3
      have hj := own_use h8
      have q : PE X (.Call (.Attribute (.Attribute eo nm ap) "append" apos) [ee] [] cpos) _ := pe_bm PySem.F.plainAttrs_list PySem.F.slot_list_append PySem.F.type_list_append mt_append he (pa_cons (var_pe xs h8) pa_nil (star_cons h6 _ _)) (attr_base rfl _ _ _) (few_ok h6) h5 (star_cons h6 _ _) rfl
      refine (ps_expr q (sw_false rfl)).imp fun E σ H ⟨g, env, S, sr, p⟩ => ?_
      have p : PostS (u.at o) c.om o c.rt g (match env[j]? with
        | some (some d) => match insOf env S k i with
          | some (n, fs) => match fs.lookup nm with
            | some (.lst xs) => if xs.length < sizeLine then .nx env (S.set n (.ins k (putD nm (.lst (xs ++ [d])) fs))) else .err
            | _ => .err
          | none => .err
        | _ => .err) E := p
      split at p
      · rename_i d ed
        split at p
        · rename_i n fs hi
          split at p
          · rename_i xs_ hl
            split at p
            · rename_i lt
              obtain ⟨a, dx, ls, fv, e1, e2, e3, e4, e5, e6, e7⟩ := ins_at sr hi
              obtain ⟨v, f1, f2⟩ := e7.at_ hl
              rcases f2 with ⟨z, _⟩ | ⟨l, ml, rfl, vs, k1, k2, k3⟩
              · cases z
              · obtain ⟨w, w1, w2⟩ := sr.read hj ed
                have nd := cell_nd sr.bs e4
                have nd1 := List.nodup_cons.mp nd
                have nd2 := List.nodup_cons.mp nd1.2
                have la : l ≠ a := fun z => nd1.1 (by rw [← z]; exact List.mem_cons_of_mem _ ml)
                have ld : l ≠ dx := fun z => nd2.1 (by rw [← z]; exact ml)
                have lz : vs.length < sizeLine := by rw [k3.length]; exact lt
                have hup : ∀ b, b ≠ l → (upd H l (.lst (vs ++ [w]))) b = H b := fun b hb => upd_ne hb
                have nw : Holds u.K u.ca g (upd H l (.lst (vs ++ [w]))) l (.lst (xs_ ++ [d])) := ⟨vs ++ [w], upd_same, by rw [List.length_append]; exact lz, k3.append (.cons w2 .nil)⟩
                have le := setA_le (as' := a :: dx :: ls) e4 rfl
                refine ⟨_, e3, a, _, dx, fv, _, rfl, e5, hc, hn, f1, .inl ⟨rfl, vs, .inl (.inl k1)⟩, w, w1, l, vs, w, rfl, rfl, k1, lz, ?_⟩
                refine p σ _ (g.setA n (a :: dx :: ls)) (sr.updCell e4 e2 rfl nd (fun b hb => .inl hb) (fun b hb => hup b fun z => hb (by rw [z]; exact List.mem_cons_of_mem _ (List.mem_cons_of_mem _ ml))) (fun b hb => ?_) ⟨a, dx, ls, fv, rfl, by rw [hup a la.symm]; exact e5, by rw [hup dx ld.symm]; exact e6, (e7.upd nw hup nd2.2 rfl hl f1).mono le fun _ _ => rfl⟩) le
                by_cases z : b = l
                · rw [z, upd_same]
                  simp
                · rw [hup b z]
                  exact hb
            · exact p.elim
          · exact p.elim
        · exact p.elim
      · exact p.elim
    · cases h
  · cases h
theorem s_pass : SubS c rc .pass := fun {X u} xs o {r st o'} h ft => by
  unfold chkS at h
  split at h
  · cases h
    have e0 := fits_some ft
    subst e0
    exact ps_pass.imp fun E σ H ⟨g, env, S, sr, p⟩ => p σ H g sr (GhLe.refl g)
  · cases h
theorem s_retN : SubS c rc .retN := fun {X u} xs o {r st o'} h ft => by
  unfold chkS at h
  split at h
  · exact ps_retN.imp fun E σ H ⟨g, env, S, sr, p⟩ => p .non H g sr.bs sr.fr (NewD.imm_rep .non rfl)
  · cases h
theorem bind_imm {α : Type} {r : Res α} {k : α → Sto → Res D} {d : D} {S' : Sto} (h : r.bind k = .ok d S') (hk : ∀ a S, k a S = .ok d S' → d.isMut = false) : d.isMut = false := bind2_bl h hk
theorem imm_ok {gl : List D} {e : T} {env : Env} {S S' : Sto} {d : D} (hi : immT e = true) (h : evE gl rc e env S = .ok d S') : d.isMut = false := by
  cases e <;> first | exact absurd hi Bool.false_ne_true | skip
  · cases h; rfl
  · cases h; rfl
  · cases h; rfl
  · cases h; rfl
  · refine bind_imm h fun a S h => bind_imm h fun b S h => ?_
    cases h
    rfl
  · refine bind_imm h fun a S h => bind_imm h fun b S h => bind_imm h fun k S h => ?_
    cases h
    rfl
  · refine bind_imm h fun a S h => ?_
    cases h
    rfl
  · refine bind_imm h fun a S h => ?_
    cases h
    rfl
  · refine bind_imm h fun a S h => ?_
    cases h
    rfl
theorem NewR.toH0 {u : Su} {g g1 : Gh} {H H1 : Hp} {v : V} {d : D} {fr : Bool} (f0 : Fr u.g0 u.H0 g H) (h : NewR u.K u.ca fr H g1 H1 v d) : NewR u.K u.ca fr u.H0 g1 H1 v d := NewR.older f0 h
theorem s_ret (e : T) : SubS c rc (.ret e) := fun {X u} xs o {r st o'} h ft => by
  unfold chkS at h
  split at h
  · split at h
    · cases h
      rename_i ee pos hh
      simp only [Bool.and_eq_true] at hh
      obtain ⟨h1, h2⟩ := hh
      have key : ∀ {fr : Bool}, PE X ee (rN (u.at o) fr (evE c.p.gl rc e)) → (∀ (d : D) (S S' : Sto) (env : Env) (v : V) (H H1 : Hp) (g1 : Gh), evE c.p.gl rc e env S = .ok d S' → NewR u.K u.ca fr H g1 H1 v d → NewR u.K u.ca c.rt H g1 H1 v d) → PS X (.Return (some ee) pos) (rS (u.at o) c.om o' c.rt (evS c.p.gl rc (.ret e))) := fun {fr} q hq => by
        refine (ps_ret q).imp fun E σ H ⟨g, env, S, sr, p⟩ => ⟨g, env, S, sr, ?_⟩
        have p : PostS (u.at o) c.om o' c.rt g ((evE c.p.gl rc e env S).outs env fun d S => .rt d S) E := p
        cases q1 : evE c.p.gl rc e env S with
        | ok d S1 =>
          rw [q1] at p
          exact fun v H1 g1 b1 f1 n1 => p v H1 g1 b1 (sr.fr.trans f1) (NewR.older sr.fr (hq d S S1 env v H H1 g1 q1 n1))
        | exc x S1 =>
          rw [q1] at p
          exact exc_wish sr (ex_of h1) p
        | err =>
          rw [q1] at p
          exact p.elim
      unfold retOk at h2
      split at h2
      · rename_i hrt
        rw [Bool.or_eq_true] at h2
        rcases h2 with h2 | h2
        · rw [Bool.and_eq_true, Bool.or_eq_true] at h2
          obtain ⟨h2, h3⟩ := h2
          refine key (xs.use h3) fun d S S' env v H H1 g1 q n => ?_
          rw [hrt]
          rcases h2 with h2 | h2
          · rw [h2] at n
            exact n
          · have z := imm_ok h2 q
            refine NewD.imm_rep ?_ z
            cases hf : frT c.p e with
            | true =>
              rw [hf] at n
              have n : NewD u.K u.ca H g1 H1 v d := n
              rw [NewD.imm z] at n
              exact n
            | false =>
              rw [hf] at n
              exact n
        · split at h2
          · rename_i i x xp
            simp only [Bool.and_eq_true, decide_eq_true_eq] at h2
            obtain ⟨h3, h4, h5, h6⟩ := h2
            refine (ps_ret (pvs xs h4 h5 h6)).imp fun E σ H ⟨g, env, S, sr, p⟩ => ?_
            have p : PostS (u.at o) c.om o' c.rt g ((fVar i env S).outs env fun d S => .rt d S) E := p
            unfold fVar at p
            split at p
            · rename_i d ed
              obtain ⟨v, s1, s2⟩ := sr.slot i d ed
              refine ⟨v, s1, p v H g sr.bs sr.fr ?_⟩
              rw [hrt]
              show NewD u.K u.ca u.H0 g H v d
              cases z : d.isMut with
              | true =>
                rw [NewD.mut z]
                rw [SlotOk.own_ (by rw [h3, z]; rfl)] at s2
                obtain ⟨a, rfl, k1, k2, k3, k4⟩ := s2
                exact ⟨a, rfl, k1, k2, k3, k4⟩
              | false =>
                rw [NewD.imm z]
                rw [SlotOk.frz_ (by rw [z, Bool.and_false])] at s2
                exact s2
            · exact p.elim
          · exact absurd h2 Bool.false_ne_true
      · rename_i hrt
        have hrt : c.rt = false := by simpa using hrt
        refine key (xs.useE h2) fun d S S' env v H H1 g1 q n => ?_
        rw [hrt]
        exact n
    · cases h
  · cases h
end
end VE

set_option Elab.async false
set_option linter.all false
set_option maxRecDepth 100000
set_option maxHeartbeats 4000000
/-! VE, part 14: pairs, branches, loops; all statements. -/
namespace VE
open PySem PySem.Spec PyProof.Rows L2

theorem star_no (e : Expr) : (match e with | .Starred _ _ => true | _ => false) = !notStar e := by
  cases e <;> rfl
theorem swap2 {x y : Str} {px py pt pt2 : Pos} {kt k2 : Nat} {a b : Expr} {env : PySem.Env} (bk : env.blockKind = .function) (hx : env.kindOf x = some .local) (hy : env.kindOf y = some .local) (hl : px.line = py.line) (hf : [a, b].all (foldedForSure 8) = false) (hc : [a, b].all (constantsAlone 8) = false)
    (ha : notStar a = true) (hb : notStar b = true) (ne : x ≠ y) : swappedStores [.Tuple [.Name x px, .Name y py] kt pt] (.Tuple [a, b] k2 pt2) env = pure (some [x, y]) := by
  have e1 := star_no a
  have e2 := star_no b
  rw [ha] at e1
  rw [hb] at e2
  unfold swappedStores
  have hne : (x == y) = false := by simpa using ne
  have hd : [x, y].eraseDups.length = 2 := by
    rw [List.eraseDups_cons]
    have e0 : [y].filter (fun b => !b == x) = [y] := by
      have q : (y == x) = false := by simpa using Ne.symm ne
      simp [q]
    rw [e0]
    rfl
  simp only [List.any_cons, List.any_nil, e1, e2, List.length_cons, List.length_nil, bk, List.filterMap_cons, List.filterMap_nil, hx, hy, List.head?_cons, Option.map_some, Option.getD_some, Expr.pos, hl, hf, hc]
  simp [hd]
  rintro (h | h)
  · exact absurd (e1.symm.trans h) (by decide)
  · exact absurd (e2.symm.trans h) (by decide)
section
variable {c : Cs} {rc : Nat → List D → Sto → Res D}
theorem kind_of {X : Cx} {u : Su} (xs : XS X u c rc) {x : Str} (h : lo c.sc x = true) : X.env.scope.names.lookup x = some .local := by
  unfold lo at h
  rw [decide_eq_true_eq] at h
  rw [xs.xo.scope]
  exact h
theorem evEs2 {gl : List D} {a b : T} {env : Env} {S : Sto} {k : List D → Sto → Out} : (evEs gl rc [a, b] env S).outs env k = (evE gl rc a env S).outs env fun x S => (evE gl rc b env S).outs env fun y S => k [x, y] S := by
  have e0 : evEs gl rc [a, b] env S = (evE gl rc a env S).bind fun x S => ((evE gl rc b env S).bind fun y S => (Res.ok [] S).bind fun xs S => .ok (y :: xs) S).bind fun xs S => .ok (x :: xs) S := rfl
  rw [e0]
  cases evE gl rc a env S with
  | ok x S1 =>
    simp only [Res.ok_bind, Res.ok_outs]
    cases evE gl rc b env S1 <;> rfl
  | exc x S1 => rfl
  | err => rfl
theorem s_par (is : List Nat) (es : List T) : SubS c rc (.par is es) := fun {X u} xs o {r st o'} h ft => by
  unfold chkS at h
  split at h
  · split at h
    · cases h
      rename_i i j a b x px y py kt pt ea eb k2 pt2 pos hh
      simp only [Bool.and_eq_true, decide_eq_true_eq, Bool.not_eq_true'] at hh
      obtain ⟨h1, h2, h3, h4, h5, h6, h7, h8, h9, h10, h11, h12, h13, h14, h15, h16⟩ := hh
      have e0 := fits_some ft
      subst e0
      have kx := kind_of xs h4
      have ky := kind_of xs h5
      refine (ps_par (pos := pos) xs.xo.calm xs.xo.nd (by rw [xs.N]; exact h1) (by rw [xs.N]; exact h2) h3 kx ky (pa_cons (xs.use h15) (pa_cons (xs.use h16) pa_nil (star_cons h10 _ _)) (star_cons h9 _ _)) (swap2 xs.bk kx ky h6 h7 h8 h9 h10 h11) rfl).imp fun E σ H ⟨g, env, S, sr, p⟩ => ?_
      have p : PostS (u.at o) c.om _ c.rt g ((evEs c.p.gl rc [a, b] env S).outs env fun ds S => match Tg.sets ([i, j].map .n) ds env with
        | some env => .nx env S
        | none => .err) E := p
      rw [evEs2] at p
      refine bindN sr (ex_of h14) p fun d v S1 g1 H1 b1 f1 n1 p1 => bindN (sr.next f1 b1) (ex_of h14) p1 fun d' v' S2 g2 H2 b2 f2 n2 p2 => ⟨v, v', rfl, ?_⟩
      have s0 := (sr.next f1 b1).next f2 b2
      have s1 := s0.storeNew (n1.fr2 f2) sr.fr.dom h12 fun a _ hn j dj _ e y s => sr.slot_there e y s hn
      have s2 := s1.storeNew n2 (fun a h => f1.dom a (sr.fr.dom a h)) (by rw [List.length_set]; exact h13) fun ad ev hn k dk nk e yk sk => ?_
      · exact p2 _ H2 g2 s2 (GhLe.refl g2)
      · -- the other ones stood already
        by_cases hk : k = i
        · subst hk
          have lt : k < env.length := by
            have := (List.getElem?_eq_some_iff.mp e).1
            rwa [List.length_set] at this
          rw [List.getElem?_set_self lt] at e
          cases e
          rw [List.getElem?_set_self (by rw [← sr.len]; exact lt)] at sk
          cases sk
          have ow : own (o.set k (frT c.p a)) k = frT c.p a := by
            unfold own
            rw [List.getD_eq_getElem?_getD, List.getElem?_set_self h12]
            rfl
          rw [ow, Bool.and_eq_true] at yk
          rw [yk.1] at n1
          have n1 : NewD u.K u.ca H g1 H1 (.ref ad) d := n1
          rw [NewD.mut yk.2] at n1
          obtain ⟨a', ea', _, _, _, hh⟩ := n1
          cases ea'
          obtain ⟨z, hz⟩ := hh.there
          rw [hn] at hz
          cases hz
        · rw [List.getElem?_set_ne (Ne.symm hk)] at e sk
          rw [own_set_ne hk] at yk
          exact f1.dom ad (sr.slot_there e yk sk) hn
    · cases h
  · cases h
theorem s_iff (t : T) {a b : List St} (ha : SubSs c rc a) (hb : SubSs c rc b) : SubS c rc (.iff t a b) := fun {X u} xs o {r st o'} h ft => by
  unfold chkS at h
  split at h
  · split at h
    · rename_i ec sa sb pos hh
      simp only [Bool.and_eq_true] at hh
      obtain ⟨h1, h2⟩ := hh
      have key : ∀ {ra rb : Option (List Bool)}, chkSs c a o sa = some ra → chkSs c b o sb = some rb → Fits ra o' → Fits rb o' → PS X (.If ec sa sb pos) (rS (u.at o) c.om o' c.rt (evS c.p.gl rc (.iff t a b))) := fun {ra rb} q1 q2 f1 f2 => by
        refine (ps_if (xs.test h2) (ha xs o q1 f1) (hb xs o q2 f2)).imp fun E σ H ⟨g, env, S, sr, p⟩ => ?_
        have p : PostS (u.at o) c.om o' c.rt g ((evE c.p.gl rc t env S).outs env fun x S => (tru x S).outs env fun k S => if k then evSs c.p.gl rc a env S else evSs c.p.gl rc b env S) E := p
        have e0 : ((evE c.p.gl rc t env S).outs env fun x S => (tru x S).outs env fun k S => if k then evSs c.p.gl rc a env S else evSs c.p.gl rc b env S) = ((evE c.p.gl rc t env S).bind tru).outs env fun k S => if k then evSs c.p.gl rc a env S else evSs c.p.gl rc b env S := by
          cases evE c.p.gl rc t env S <;> rfl
        rw [e0] at p
        refine bindNT (f := fun env S => (evE c.p.gl rc t env S).bind tru) sr (ex_of h1) p fun k S1 g1 H1 s1 f1 p1 => ?_
        cases k with
        | true => exact ⟨g1, env, S1, s1, p1⟩
        | false => exact ⟨g1, env, S1, s1, p1⟩
      split at h
      · rename_i q1 q2
        cases h
        exact key q1 q2 (.inl rfl) ft
      · rename_i _ q1 q2
        cases h
        exact key q1 q2 ft (.inl rfl)
      · rename_i o1 o2 q1 q2
        split at h
        · rename_i e1
          cases h
          subst e1
          exact key q1 q2 ft ft
        · cases h
      · cases h
    · cases h
  · cases h
theorem s_forr (tg : Tg) (it : T) {b : List St} (hb : SubSs c rc b) : SubS c rc (.forr tg it b) := fun {X u} xs o {r st o'} h ft => by
  unfold chkS at h
  split at h
  · split at h
    · rename_i etg eit body pos hh
      simp only [Bool.and_eq_true] at hh
      obtain ⟨h1, h2, h3, h4⟩ := hh
      obtain ⟨rb, q1, f1, e1⟩ : ∃ rb, chkSs c b (frzs o tg.slots) body = some rb ∧ Fits rb o ∧ r = some o := by
        split at h
        · rename_i q
          cases h
          exact ⟨_, q, .inl rfl, rfl⟩
        · rename_i o1 q
          split at h
          · rename_i e
            cases h
            subst e
            exact ⟨_, q, .inr rfl, rfl⟩
          · cases h
        · cases h
      subst e1
      have e0 := fits_some ft
      subst e0
      rw [← xs.N] at h2 h4
      refine (ps_for xs.ps xs.xo.calm (sE it (xs.xo.at_ o) .it h4 etg (itOk_inv h1)) (pgT xs.st tg (u := u.at o) xs.xo.K h2) (hb xs (frzs o tg.slots) q1 f1) (fun x => set_free h1 h4 X.env x)).imp fun E σ H ⟨g, env, S, sr, p⟩ => ⟨g, env, S, sr, ?_⟩
      have p : PostS (u.at o) c.om o c.rt g ((evIt c.p.gl rc it env S).outs env fun ds S => forL (fun d env S => match Tg.set tg d env with
        | some env => evSs c.p.gl rc b env S
        | none => .err) ds env S) E := p
      have hf := ex_of h3
      cases q : evIt c.p.gl rc it env S with
      | exc x S1 =>
        rw [q] at p
        unfold evIt at q
        dsimp only
        rw [q]
        exact exc_wish (u := u.at o) sr hf p
      | err =>
        rw [q] at p
        exact p.elim
      | ok ds S1 =>
        rw [q] at p
        unfold evIt at q
        dsimp only
        rw [q]
        intro J H1 g1 b1 fr1 wd
        have s1 := sr.next fr1 b1
        have p1 := PostS.later fr1.le p
        obtain ⟨G, Y, w, hG, hY⟩ := wd.ex
        refine for_it w (fun i σ H => ∃ g2 env2 S2, VE.SR u.K u.ca u.g0 u.H0 o g2 env2 S2 σ H ∧ GhLe g1 g2 ∧ PostS (u.at o) c.om o c.rt g2 (forL (fun d env S => match Tg.set tg d env with
          | some env => evSs c.p.gl rc b env S
          | none => .err) (ds.drop i) env2 S2) E) ⟨g1, env, S1, s1, GhLe.refl g1, p1⟩ ?_ ?_ ?_
        · rintro i σ2 H2 hi ⟨g2, env2, S2, s2, l2, _⟩
          exact hG g2 S2 H2 l2 s2.bs
        · rintro i x σ2 H2 H3 hi ⟨g2, env2, S2, s2, l2, p2⟩ hx
          obtain ⟨d, hd⟩ : ∃ d, ds[i]? = some d := ⟨ds[i], List.getElem?_eq_getElem hi⟩
          obtain ⟨g3, f3, b3, rx⟩ := hY i d g2 S2 H2 x H3 hd l2 s2.bs hx
          have hdr : ds.drop i = d :: ds.drop (i + 1) := by
            have e := List.getElem_cons_drop hi
            rw [← e]
            rw [List.getElem?_eq_getElem hi] at hd
            cases hd
            rfl
          rw [hdr] at p2
          unfold forL at p2
          cases q3 : Tg.set tg d env2 with
          | none =>
            try dsimp only at p2
            rw [q3] at p2
            exact p2.elim
          | some env3 =>
            try dsimp only at p2
            rw [q3] at p2
            refine ⟨g3, env2, S2, d, env3, s2.next f3 b3, rx, q3, fun σ4 s4 _ _ => ⟨g3, env3, S2, s4, ?_⟩⟩
            try dsimp only at p2
            cases q4 : evSs c.p.gl rc b env3 S2 with
            | nx env5 S5 =>
              rw [q4] at p2
              exact fun σ5 H5 g5 s5 l5 => ⟨g5, env5, S5, s5, (l2.trans f3.le).trans l5, PostS.later (f3.le.trans l5) p2⟩
            | rt d' S5 =>
              rw [q4] at p2
              exact p2
            | exc x' env5 S5 =>
              rw [q4] at p2
              exact p2
            | err =>
              rw [q4] at p2
              exact p2.elim
        · rintro σ2 H2 ⟨g2, env2, S2, s2, l2, p2⟩
          rw [List.drop_length] at p2
          exact p2 σ2 H2 g2 s2 (GhLe.refl g2)
    · cases h
  · cases h
theorem s_whil (t : T) {b : List St} (hb : SubSs c rc b) : SubS c rc (.whil t b) := fun {X u} xs o {r st o'} h ft => by
  unfold chkS at h
  split at h
  · split at h
    · rename_i ec body pos hh
      simp only [Bool.and_eq_true] at hh
      obtain ⟨h1, h2⟩ := hh
      obtain ⟨rb, q1, f1, e1⟩ : ∃ rb, chkSs c b o body = some rb ∧ Fits rb o ∧ r = some o := by
        split at h
        · rename_i q
          cases h
          exact ⟨_, q, .inl rfl, rfl⟩
        · rename_i o1 q
          split at h
          · rename_i e
            cases h
            subst e
            exact ⟨_, q, .inr rfl, rfl⟩
          · cases h
        · cases h
      subst e1
      have e0 := fits_some ft
      subst e0
      have hf := ex_of h1
      refine (ps_while xs.ps (xs.test h2) (hb xs o q1 f1)).imp fun E σ H ⟨g, env, S, sr, p⟩ => ?_
      have p : PostS (u.at o) c.om o c.rt g (whileL (fun env S => (evE c.p.gl rc t env S).bind fun x S => tru x S) (fun env S => evSs c.p.gl rc b env S) turns env S) E := p
      refine ⟨fun m σ H => ∃ g2 env2 S2, VE.SR u.K u.ca u.g0 u.H0 o g2 env2 S2 σ H ∧ PostS (u.at o) c.om o c.rt g2 (whileL (fun env S => (evE c.p.gl rc t env S).bind fun x S => tru x S) (fun env S => evSs c.p.gl rc b env S) m env2 S2) E, ⟨turns, g, env, S, sr, p⟩, ?_⟩
      rintro m σ2 H2 ⟨g2, env2, S2, s2, p2⟩
      cases m with
      | zero => exact p2.elim
      | succ m =>
        unfold whileL at p2
        have s2 : (u.at o).SR g2 env2 S2 σ2 H2 := s2
        refine bindNT (f := fun env S => (evE c.p.gl rc t env S).bind tru) s2 hf p2 fun k S3 g3 H3 s3 f3 p3 => ?_
        cases k with
        | false => exact p3 σ2 H3 g3 s3 (GhLe.refl g3)
        | true =>
          refine ⟨fun σ5 H5 => ∃ g5 env5 S5, VE.SR u.K u.ca u.g0 u.H0 o g5 env5 S5 σ5 H5 ∧ PostS (u.at o) c.om o c.rt g5 (whileL (fun env S => (evE c.p.gl rc t env S).bind fun x S => tru x S) (fun env S => evSs c.p.gl rc b env S) m env5 S5) E, fun σ5 H5 z => ⟨m, Nat.lt_succ_self m, z⟩, g3, env2, S3, s3, ?_⟩
          have p3 : PostS (u.at o) c.om o c.rt g3 ((evSs c.p.gl rc b env2 S3).andThen fun env S => whileL (fun env S => (evE c.p.gl rc t env S).bind fun x S => tru x S) (fun env S => evSs c.p.gl rc b env S) m env S) E := p3
          cases q4 : evSs c.p.gl rc b env2 S3 with
          | nx env5 S5 =>
            rw [q4] at p3
            exact fun σ5 H5 g5 s5 l5 => ⟨g5, env5, S5, s5, PostS.later l5 p3⟩
          | rt d' S5 =>
            rw [q4] at p3
            exact p3
          | exc x' env5 S5 =>
            rw [q4] at p3
            exact p3
          | err =>
            rw [q4] at p3
            exact p3.elim
    · cases h
  · cases h
theorem s_frz (is : List Nat) : SubS c rc (.frz is) := fun {X u} xs o {r st o'} h ft => by
  have h : (none : Option (Option (List Bool))) = some _ := h
  cases h
theorem ss_nil : SubSs c rc [] := fun {X u} xs o {r st o'} h ft => by
  unfold chkSs at h
  split at h
  · cases h
    have e0 := fits_some ft
    subst e0
    exact pss_nil.imp fun E σ H ⟨g, env, S, sr, p⟩ => p σ H g sr (GhLe.refl g)
  · cases h
theorem ss_cons {s : St} {r : List St} (hs : SubS c rc s) (hr : SubSs c rc r) : SubSs c rc (s :: r) := fun {X u} xs o {res st o'} h ft => by
  unfold chkSs at h
  split at h
  · rename_i is e
    have e : s = .frz is := by
      cases s <;> cases e
      rfl
    subst e
    refine (hr xs (frzs o is) h ft).imp fun E σ H ⟨g, env, S, sr, p⟩ => ?_
    obtain ⟨g2, l2, s2⟩ := SR.freezes is sr
    exact ⟨g2, env, S, s2, PostS.later l2 p⟩
  · split at h
    · rename_i st1 sts
      have key : ∀ {o1 : List Bool} {r1 : Option (List Bool)} {t : TS}, chkS c s o st1 = some r1 → Fits r1 o1 → PSs X sts t → (∀ E σ H, rS (u.at o1) c.om o' c.rt (evSs c.p.gl rc r) E σ H → t E σ H) → PSs X (st1 :: sts) (rS (u.at o) c.om o' c.rt (evSs c.p.gl rc (s :: r))) := fun {o1 r1 t} q f ht hi => by
        refine (pss_cons (hs xs o q f) ht).imp fun E σ H ⟨g, env, S, sr, p⟩ => ⟨g, env, S, sr, ?_⟩
        have p : PostS (u.at o) c.om o' c.rt g ((evS c.p.gl rc s env S).andThen fun env S => evSs c.p.gl rc r env S) E := p
        cases q4 : evS c.p.gl rc s env S with
        | nx env5 S5 =>
          rw [q4] at p
          exact fun σ5 H5 g5 s5 l5 => hi _ _ _ ⟨g5, env5, S5, s5, PostS.later l5 p⟩
        | rt d' S5 =>
          rw [q4] at p
          exact p
        | exc x' env5 S5 =>
          rw [q4] at p
          exact p
        | err =>
          rw [q4] at p
          exact p.elim
      split at h
      · rename_i o1 q
        exact key q (.inr rfl) (hr xs o1 h ft) fun E σ H z => z
      · rename_i q
        split at h
        · rename_i e
          cases h
          rw [Bool.and_eq_true, List.isEmpty_iff, List.isEmpty_iff] at e
          obtain ⟨rfl, rfl⟩ := e
          exact key (o1 := o') q (.inl rfl) pss_nil fun E σ H ⟨g, env, S, sr, p⟩ => p σ H g sr (GhLe.refl g)
        · cases h
      · cases h
    · cases h
mutual
theorem sS : ∀ s : St, SubS c rc s
  | .asg i e => s_asg i e
  | .asgT tg e => s_asgT tg e
  | .par is es => s_par is es
  | .expr e => s_expr e
  | .app i e => s_app i e
  | .extd i e => s_extd i e
  | .insr i a e => s_insr i a e
  | .setI i k e => s_setI i k e
  | .bset b k e => s_bset b k e
  | .aug i sb e => s_aug i sb e
  | .iff t a b => s_iff t (sSs a) (sSs b)
  | .forr tg it b => s_forr tg it (sSs b)
  | .whil t b => s_whil t (sSs b)
  | .ret e => s_ret e
  | .retN => s_retN
  | .pass => s_pass
  | .frz is => s_frz is
  | .fset k i x fr e => s_fset k i x fr e
  | .fapp k i x j => s_fapp k i x j
  | .bad => s_bad_
theorem sSs : ∀ s : List St, SubSs c rc s
  | [] => ss_nil
  | s :: r => ss_cons (sS s) (sSs r)
end
end
end VE

set_option Elab.async false
set_option linter.all false
set_option maxRecDepth 100000
set_option maxHeartbeats 4000000
/-! VE, part 15: defs; the law's end. -/
namespace VE
open PySem PySem.Spec PyProof.Rows L2

def Pg.prog (p : Pg) : Prog := ⟨p.gl, p.fns⟩
/-- the static part of a def -/
structure Df where
  x : Str
  ps : List Str
  N : List Str
  qual : Str
  params : Arguments
  body : List Stmt
  scope : Scope
  /-- of which class it is a method -/
  cls : Option Str := none
def Df.cs (d : Df) (p : Pg) (F : Fn) : Cs := ⟨p, d.N, d.scope, F.fresh, List.replicate d.N.length false, List.range d.N.length⟩
/-- what is checked of a def -/
def Df.ok (d : Df) (p : Pg) (F : Fn) : Bool := decide (F.np = d.ps.length) && (decide (F.nl = d.N.length) && (decide (d.ps.length ≤ d.N.length) && (chkSs (d.cs p F) F.body (List.replicate d.N.length false) d.body).isSome))
section
variable {K : PySem.W.Frag} {ca : Nat → Addr} {P : Program} {w : World} {mg : Str → Option Value} {base : Heap} {p : Pg} {g : Gh} {S : Sto} {H : Hp}
theorem own_rep {n i : Nat} : own (List.replicate n false) i = false := by
  unfold own
  rw [List.getD_eq_getElem?_getD]
  by_cases h : i < n
  · rw [List.getElem?_replicate, if_pos h]
    rfl
  · rw [List.getElem?_replicate, if_neg h]
    rfl
theorem SR.start {vs : List V} {ds : List D} {N : List Str} (b : Bs K ca g S H) (r : Reps K ca g vs ds) (hl : ds.length ≤ N.length) : SR K ca g H (List.replicate N.length false) g (startE N.length ds) S (L2.start N vs) H where
  bs := b
  fr := Fr.refl g H
  len := by
    unfold startE L2.start
    rw [List.length_append, List.length_append, List.length_map, List.length_map, List.length_replicate, List.length_replicate, r.length]
  slot := fun i d e => by
    have lt : i < ds.length := by
      by_cases h : i < ds.length
      · exact h
      · exfalso
        unfold startE at e
        rw [List.getElem?_append_right (by rw [List.length_map]; omega), List.getElem?_replicate] at e
        split at e <;> cases e
    unfold startE at e
    rw [List.getElem?_append_left (by rw [List.length_map]; exact lt), List.getElem?_map] at e
    cases q : ds[i]? with
    | none =>
      rw [q] at e
      cases e
    | some d' =>
      rw [q] at e
      cases e
      obtain ⟨v, e1, r1⟩ := r.get q
      refine ⟨v, ?_, ?_⟩
      · unfold L2.start
        rw [List.getElem?_append_left (by rw [List.length_map, r.length]; exact lt), List.getElem?_map, e1]
        rfl
      · rw [SlotOk.frz_ (by rw [own_rep]; rfl)]
        exact r1
  dist := fun k l dk dl a _ _ _ y1 _ _ _ => by
    rw [own_rep] at y1
    cases y1
structure Facts (K : PySem.W.Frag) (ca : Nat → Addr) (mg : Str → Option Value) (w : World) (p : Pg) : Prop where
  gl : ∀ (k : Nat) (x : Str), p.gn[k]? = some x → ∃ d v w, p.gl[k]? = some d ∧ mg x = some w ∧ RelV v w ∧ d.isMut = false ∧ ∀ g, Rep K ca g v d
  bi : ∀ x ∈ biNames, mg x = none
  fn : ∀ (f : Nat) (x : Str), p.fnn[f]? = some x → p.mts[f]? = some none → ∃ (F : Fn) (d : Df) (fa : Addr) (fd : FuncData), p.fns[f]? = some F ∧ d.x = x ∧ d.ok p F = true ∧ FnScope d.N d.ps d.scope ∧ FunD K x d.qual d.params d.body d.scope [] [] fa fd ∧ mg x = some (.ref fa) ∧
    (∀ (kV doc pm : Value) (an : Option Addr) (cdv ct : Value) (us : List Value), us.length = d.ps.length → bindArgs (PySem.W.fnOf x d.qual d.params d.body d.scope Value.none kV doc pm an cdv ct) { pos := us } = pure (List.zip d.ps us))
  mt : ∀ (f c : Nat) (m : Str), p.mts[f]? = some (some (c, m)) → ∃ (F : Fn) (d : Df) (fa : Addr) (fd : FuncData), p.fns[f]? = some F ∧ p.fnn[f]? = some m ∧ d.x = m ∧ d.ok p F = true ∧ FnScope d.N d.ps d.scope ∧ FunD K m d.qual d.params d.body d.scope [] [] fa fd ∧ Meth K (ca c) m fa ∧ (m = Str.ofString "__init__" → Mk K (ca c) fa) ∧
    (∀ (kV doc pm : Value) (an : Option Addr) (cdv ct : Value) (us : List Value), us.length = d.ps.length → bindArgs (PySem.W.fnOf m d.qual d.params d.body d.scope Value.none kV doc pm an cdv ct) { pos := us } = pure (List.zip d.ps us))
  cl : ∀ (c : Nat) (k : Str × List Str), p.cls[c]? = some k → mg k.1 = some (.ref (ca c)) ∧ Cls K (ca c) ∧ ∀ x ∈ k.2, NoAttr K (ca c) x
  dt : ∀ q ∈ p.dts, ∃ a, mg q.1 = some (.ref a) ∧ KD K w a q.2
theorem fits_get (r : Option (List Bool)) (o : List Bool) : Fits r (r.getD o) := by
  cases r with
  | none => exact .inl rfl
  | some o1 => exact .inr rfl
theorem run_len {P : Prog} {n f : Nat} {F : Fn} {ds : List D} {S : Sto} (hf : P.fns[f]? = some F) (h : run P n f ds S ≠ .err) : ds.length = F.np := by
  cases n with
  | zero => exact absurd rfl h
  | succ n =>
    unfold run at h
    rw [hf] at h
    dsimp only at h
    split at h
    · assumption
    · exact absurd rfl h
theorem binds_of {x : Str} {d : Df} {fa : Addr} {fd : FuncData} (F : FunD K x d.qual d.params d.body d.scope [] [] fa fd) (hb : ∀ (kV doc pm : Value) (an : Option Addr) (cdv ct : Value) (us : List Value), us.length = d.ps.length → bindArgs (PySem.W.fnOf x d.qual d.params d.body d.scope Value.none kV doc pm an cdv ct) { pos := us } = pure (List.zip d.ps us)) : L2.Binds K fd d.ps [] := fun s us _ hl => by
  rw [List.append_nil] at hl ⊢
  exact F.bindsA hb s us hl
/-- every def keeps its contract -/
theorem fn_all (fx : Facts K ca mg w p) : ∀ (n f : Nat) (x : Str) (F : Fn) (d : Df) (fa : Addr) (fd : FuncData), p.fnn[f]? = some x → p.fns[f]? = some F → d.x = x → d.ok p F = true → FnScope d.N d.ps d.scope → FunD K x d.qual d.params d.body d.scope [] [] fa fd →
    FnG P w K mg base (L2.CX P w) (2 * n) fa fd d.ps (spR K ca (run p.prog n) f F)
  | 0, f, x, F, d, fa, fd, hx, hF, _, ho, hs, hd => by
    unfold Df.ok at ho
    simp only [Bool.and_eq_true, decide_eq_true_eq] at ho
    refine ⟨fun vs H Q E ⟨g, S, ds, _, _, hl, _⟩ => by rw [hl]; exact ho.1, fun A outer s H args us vs Q E _ _ _ _ _ ⟨g, S, ds, _, _, _, hp⟩ => hp.elim⟩
  | n + 1, f, x, F, d, fa, fd, hx, hF, _, ho, hs, hd => by
    unfold Df.ok at ho
    simp only [Bool.and_eq_true, decide_eq_true_eq] at ho
    obtain ⟨o1, o2, o3, o4⟩ := ho
    obtain ⟨r, hr⟩ := Option.isSome_iff_exists.mp o4
    refine fng_of (k := 2 * n + 1) hd hs (fun vs H Q E ⟨g, S, ds, _, _, hl, _⟩ => by rw [hl]; exact o1) (fun cdv A outer s H vs Q E room gd ⟨g, S, ds, b, rp, hl, hp⟩ => ?_)
    have xs : XS (cxOf (L2.CX P w) P w K mg base d.N d.qual d.scope fa cdv A outer s H E) ⟨K, ca, g, H, List.replicate d.N.length false, fun cls dx _ H' => E cls dx H'⟩ (d.cs p F) (run p.prog n) :=
      { xo :=
          { nd := hs.nd
            scope := rfl
            calm := rfl
            un := by
              have := room.un
              show Around.units (A.deeper _) + 66 < cLine
              omega
            gd := gd
            K := rfl
            gl := fx.gl
            bi := fx.bi
            fn := fun f' x' h' hm => by
              obtain ⟨F', d', fa', fd', q1, q2, q3, q4, q5, q6, q7⟩ := fx.fn f' x' h' hm
              have ok := fn_all fx n f' x' F' d' fa' fd' h' q1 q2 q3 q4 q5
              exact ⟨F', q1, fun ds S z => run_len q1 z, 2 * n, fa', fd', d'.ps, ok, room.mono (by omega), q6, q5.kp, binds_of q5 q7⟩
            mt := fun f' c' m' hm => by
              obtain ⟨F', d', fa', fd', q1, q0, q2, q3, q4, q5, q6, q8, q7⟩ := fx.mt f' c' m' hm
              have ok := fn_all fx n f' m' F' d' fa' fd' q0 q1 q2 q3 q4 q5
              exact ⟨F', q1, fun ds S z => run_len q1 z, 2 * n, fa', fd', d'.ps, ok, room, q6, binds_of q5 q7, q8⟩
            cl := fx.cl
            dt := fx.dt
            takes := takes_of rfl rfl rfl rfl }
        N := rfl
        fn := fun _ => rfl
        ps := passes_of rfl
        bk := by
          show (if d.scope.kind.isAnnotationScope then ScopeKind.function else d.scope.kind) = .function
          rw [hs.kind]
          rfl }
    refine ⟨_, sSs (c := d.cs p F) F.body xs (List.replicate d.N.length false) hr (fits_get r []), g, startE F.nl ds, S, ?_, ?_⟩
    · rw [o2]
      refine SR.start b rp ?_
      rw [← rp.length, hl, o1]
      exact o3
    · have len : ds.length = F.np := by rw [← rp.length, hl]
      have e0 : run p.prog (n + 1) f ds S = endRun (evSs p.gl (run p.prog n) F.body (startE F.nl ds) S) := by
        show (match p.fns[f]? with
          | some F => if ds.length = F.np then endRun (evSs p.gl (run p.prog n) F.body (startE F.nl ds) S) else Res.err
          | none => Res.err) = _
        rw [hF]
        exact if_pos len
      rw [e0] at hp
      show PostS _ _ _ _ g (evSs p.gl (run p.prog n) F.body (startE F.nl ds) S) _
      cases q : evSs p.gl (run p.prog n) F.body (startE F.nl ds) S with
      | nx env' S' =>
        rw [q] at hp
        exact fun σ' H' g' s l => hp .non H' g' s.bs s.fr (NewD.imm_rep .non rfl)
      | rt d' S' =>
        rw [q] at hp
        exact fun v H' g' b' f' n' => hp v H' g' b' f' n'
      | exc x' env' S' =>
        rw [q] at hp
        exact fun cls dx σ' H' g' s e => hp cls dx H' g' s.bs s.fr e
      | err =>
        rw [q] at hp
        exact hp.elim
/-- the law's contract at its start -/
theorem law_start {rc : Nat → List D → Sto → Res D} {f : Nat} {F : Fn} {a : Addr} {ns : List Int} {S' : Sto} (h : rc f [.fz (ns.map .int)] [] = .ok (.bl true) S') (h1 : F.np = 1) (hl : ns.length ≤ 63) (hS : SqL K H a (ns.map V.int)) : spR K ca rc f F [.ref a] H (fun v _ => v = .bl true) (fun _ _ _ => False) := by
  have nofp : ∀ b, ¬ (Gh.mk H []).fp b := fun b ⟨l, hl, _⟩ => nomatch hl
  refine ⟨⟨H, []⟩, [], [.fz (ns.map .int)], ⟨Same.refl _, fun b z => absurd z (nofp b), rfl, fun n as c z => by simp at z, by simp⟩, .cons (.fz hS (by rw [List.length_map, sizeLine_eq]; omega) (Reps.of_ints ns)) .nil, h1.symm, ?_⟩
  rw [h]
  intro v H' g' b' f' n
  cases hf : F.fresh with
  | true =>
    rw [hf] at n
    have n : NewD K ca H g' H' v (.bl true) := n
    rw [NewD.imm rfl] at n
    cases n
    rfl
  | false =>
    rw [hf] at n
    have n : Rep K ca g' v (.bl true) := n
    cases n
    rfl
theorem cx_end {H : Hp} {s : Shared} {e : Value} {s' : Shared} (h : L2.CX P w [] H s (fun _ _ _ => False) e s') : False := by
  obtain ⟨_, _, _, _, _, _, _, _, _, _, _, _, z⟩ := h
  exact z
end
end VE

set_option Elab.async false
set_option linter.all false
set_option maxRecDepth 100000
set_option maxHeartbeats 4000000
/-! VE, part 16: from the head's facts to the law's end. -/
namespace VE
open PySem PySem.Spec PyProof.Rows L2

def Df.at_ (d : Df) : Str × Option Str := match d.cls with
  | none => (d.x, none)
  | some C => (C, some d.x)
def Df.toD (d : Df) : He.DefD := ⟨d.at_, d.x, d.qual, d.params, d.body, d.scope, [], []⟩
/-- a constant of the module as a fact -/
def glFa (x : Str) : D → He.Fa
  | .int i => .int x i
  | .str z => .str x z
  | .tup _ => .glo x
  | _ => .free x
def itemOk : D → Bool
  | .int _ => true
  | .str z => strOkB z
  | _ => false
def glOk : D → Bool
  | .int _ => true
  | .str z => strOkB z
  | .tup ds => ds.all itemOk && decide (ds.length ≤ sizeLine)
  | _ => false
def dvOf : D → He.Dv
  | .int i => .int i
  | .str z => .str z
  | _ => .non
def entB : List DictEntry → List (Str × Int) → Bool
  | [], [] => true
  | e :: r, q :: s => (match e.key, e.val with
    | .str k _, .int j _ => decide (k = q.1 ∧ j = q.2)
    | _, _ => false) && entB r s
  | _, _ => false
def dctB (K : PySem.W.Frag) (x : Str) (es : List (Str × Int)) : Bool := match K.lookup (He.ga K x) with
  | some ⟨_, _, .dict ds _, _⟩ => entB ds.toList es
  | _ => false
theorem entB_at {z : Str} : ∀ {l : List DictEntry} {es : List (Str × Int)}, entB l es = true → ((∃ e v t, l.find? (·.key.isStr z) = some e ∧ es.lookup z = some v ∧ e.val = .int v t) ∨ (l.find? (·.key.isStr z) = none ∧ es.lookup z = none)) ∧ l.any (·.refKey) = false
  | [], [], _ => ⟨.inr ⟨rfl, rfl⟩, rfl⟩
  | [], _ :: _, h => by cases h
  | _ :: _, [], h => by cases h
  | e :: r, q :: s, h => by
    unfold entB at h
    rw [Bool.and_eq_true] at h
    obtain ⟨h1, h2⟩ := h
    obtain ⟨ih1, ih2⟩ := entB_at (z := z) h2
    split at h1
    · rename_i k t1 j t2 e1 e2
      rw [decide_eq_true_eq] at h1
      obtain ⟨rfl, rfl⟩ := h1
      obtain ⟨k, j⟩ := q
      dsimp only at e1 e2
      have rk : e.refKey = false := by
        unfold DictEntry.refKey
        rw [e1]
      refine ⟨?_, by rw [List.any_cons, rk, ih2]; rfl⟩
      have ez : e.key.isStr z = (k == z) := by
        rw [e1]
        rfl
      by_cases c : k = z
      · subst c
        refine .inl ⟨e, j, t2, ?_, ?_, e2⟩
        · rw [List.find?_cons, ez]
          simp
        · simp [List.lookup]
      · have c1 : (k == z) = false := by simpa using c
        have c2 : (z == k) = false := by simpa using fun q : z = k => c q.symm
        have f1 : (e :: r).find? (·.key.isStr z) = r.find? (·.key.isStr z) := by
          rw [List.find?_cons, ez, c1]
        have f2 : List.lookup z ((k, j) :: s) = s.lookup z := by
          rw [List.lookup_cons, c2]
        rw [f1, f2]
        exact ih1
    · cases h1
theorem dctB_at {K : PySem.W.Frag} {w : World} {x : Str} {es : List (Str × Int)} {ds : Array DictEntry} {n : Nat} (D : KDict K w (He.ga K x) ds n) (h : dctB K x es = true) : KD K w (He.ga K x) es := by
  refine ⟨ds, n, D, fun z => ?_⟩
  unfold dctB at h
  rw [D.at_] at h
  dsimp only at h
  obtain ⟨h1, h2⟩ := entB_at (z := z) h
  unfold PySem.W.nsIn
  rw [D.at_]
  dsimp only
  rcases h1 with ⟨e, v, t, e1, e2, e3⟩ | ⟨e1, e2⟩
  · rw [e1]
    exact .inl ⟨v, t, e2, by rw [← e3]⟩
  · rw [e1, h2]
    exact .inr ⟨e2, rfl⟩
def tabsOf (p : Pg) : List He.Tab := p.dts.map fun q => (fun K => He.ga K q.1, q.2.map (·.1))
/-- where the class c lies -/
def caOf (K : PySem.W.Frag) (p : Pg) (c : Nat) : Addr := match p.cls[c]? with
  | some k => He.ga K k.1
  | none => 0
/-- what is asked of the head beside the plain facts -/
def exOf (p : Pg) (K : PySem.W.Frag) : Bool := ((p.gn.zip p.gl).all fun q => match q.2 with
  | .tup ds => He.tupB K q.1 (ds.map dvOf)
  | _ => true) && p.dts.all fun q => dctB K q.1 q.2
theorem reps_items {K : PySem.W.Frag} {ca : Nat → Addr} {g : Gh} : ∀ {ds : List D}, ds.all itemOk = true → Reps K ca g ((ds.map dvOf).map (He.Dv.v K)) ds
  | [], _ => .nil
  | d :: ds, h => by
    rw [List.all_cons, Bool.and_eq_true] at h
    refine .cons ?_ (reps_items h.2)
    cases d <;> first | exact absurd h.1 Bool.false_ne_true | skip
    · exact .int _
    · exact .str _ (strOkB_ok h.1)
def Df.fa (d : Df) : He.Fa := match d.cls with
  | none => .glo d.x
  | some C => .meth C d.x
def Df.fm (d : Df) : List He.Fa := match d.cls with
  | none => []
  | some C => if d.x = Str.ofString "__init__" then [.mkr C] else []
def faOf (p : Pg) (ds : List Df) : List He.Fa := (ds.map Df.fa) ++ (biNames.map He.Fa.free ++ (((p.gn.zip p.gl).map fun q => glFa q.1 q.2) ++ (ds.flatMap Df.fm ++ (p.cls.flatMap (fun k => He.Fa.glo k.1 :: He.Fa.cls k.1 :: k.2.map (He.Fa.noat k.1)) ++ p.dts.map fun q => He.Fa.glo q.1))))
/-- the class is told alike -/
def mtOk (p : Pg) (d : Df) : Option (Nat × Str) → Bool
  | none => d.cls.isNone
  | some m => decide (m.2 = d.x) && (match d.cls, p.cls[m.1]? with
    | some C, some k => decide (C = k.1)
    | _, _ => false)
def scOk (d : Df) : Bool := decide (d.scope.kind = .function) && (decide (d.scope.isCoroutine = false) && (decide (d.scope.isGenerator = false) && (decide d.N.Nodup && (decide (d.N.take d.ps.length = d.ps) &&
  ((d.ps.all fun x => decide (d.scope.names.lookup x = some .local) || decide (d.scope.names.lookup x = some .cell)) && (d.scope.names.all fun y => decide (y.2 ≠ .free)))))))
theorem scope_of {d : Df} (h : scOk d = true) : FnScope d.N d.ps d.scope := by
  unfold scOk at h
  simp only [Bool.and_eq_true, decide_eq_true_eq, List.all_eq_true, Bool.or_eq_true] at h
  obtain ⟨h1, h2, h3, h4, h5, h6, h7⟩ := h
  exact ⟨h1, h2, h3, h4, h5, h6, h7⟩
def allOk (p : Pg) (ds : List Df) : Bool := (decide (p.mts.length = ds.length) && (ds.zip p.mts).all fun q => mtOk p q.1 q.2) && (decide (p.fnn = ds.map (·.x)) && (decide (p.fns.length = ds.length) && (decide (p.gn.length = p.gl.length) && (p.gl.all glOk && (ds.zip p.fns).all fun q => q.1.ok p q.2 && scOk q.1))))
def Bnd (d : Df) : Prop := ∀ (kV doc pm : Value) (an : Option Addr) (cdv ct : Value) (us : List Value), us.length = d.ps.length → bindArgs (PySem.W.fnOf d.x d.qual d.params d.body d.scope Value.none kV doc pm an cdv ct) { pos := us } = pure (List.zip d.ps us)
section
variable {K : PySem.W.Frag} {ca : Nat → Addr} {mg : Str → Option Value} {p : Pg} {ds : List Df} {h : Heap}
theorem fact_fn (X : K.In h) (G : h.Ns mainGlobals mg) (c : He.SaysD (faOf p ds) (ds.map Df.toD) K) (ok : allOk p ds = true) (hb : ∀ d ∈ ds, Bnd d) {f : Nat} {d : Df} (ed : ds[f]? = some d) :
    ∃ (F : Fn) (fd : FuncData) (m : Option (Nat × Str)), p.fnn[f]? = some d.x ∧ p.fns[f]? = some F ∧ p.mts[f]? = some m ∧ mtOk p d m = true ∧ d.ok p F = true ∧ FnScope d.N d.ps d.scope ∧ FunD K d.x d.qual d.params d.body d.scope [] [] (He.fAd K d.at_) fd ∧ (d.fa).ok K = true ∧ (∀ a ∈ d.fm, a.ok K = true) ∧ Bnd d := by
  unfold allOk at ok
  simp only [Bool.and_eq_true, decide_eq_true_eq, List.all_eq_true] at ok
  obtain ⟨⟨o6, o7⟩, o1, o2, o3, o4, o5⟩ := ok
  have lt := (List.getElem?_eq_some_iff.mp ed).1
  have lt2 : f < p.fns.length := by omega
  have lt3 : f < p.mts.length := by omega
  have eF : p.fns[f]? = some p.fns[f] := List.getElem?_eq_getElem lt2
  have eM : p.mts[f]? = some p.mts[f] := List.getElem?_eq_getElem lt3
  have q := o5 (d, p.fns[f]) (List.mem_of_getElem? (List.getElem?_zip_eq_some.mpr ⟨ed, eF⟩))
  have q2 := o7 (d, p.mts[f]) (List.mem_of_getElem? (List.getElem?_zip_eq_some.mpr ⟨ed, eM⟩))
  have memd : d ∈ ds := List.mem_of_getElem? ed
  obtain ⟨fd, F⟩ := c.defs (List.mem_map.mpr ⟨d, memd, rfl⟩)
  refine ⟨p.fns[f], fd, p.mts[f], ?_, eF, eM, q2, q.1, scope_of q.2, F, c.facts (List.mem_append_left _ (List.mem_map.mpr ⟨d, memd, rfl⟩)), fun a ha => c.facts (List.mem_append_right _ (List.mem_append_right _ (List.mem_append_right _ (List.mem_append_left _ (List.mem_flatMap.mpr ⟨d, memd, ha⟩))))), hb d memd⟩
  rw [o1, List.getElem?_map, ed]
  rfl
theorem facts_of {w : World} (X : K.In h) (G : h.Ns mainGlobals mg) (cx : He.SaysX (faOf p ds) (ds.map Df.toD) (tabsOf p) [] (exOf p) w h K) (ok : allOk p ds = true) (hb : ∀ d ∈ ds, Bnd d) : Facts K (caOf K p) mg w p := by
  have c := cx.t.d
  have ok0 := ok
  unfold allOk at ok
  simp only [Bool.and_eq_true, decide_eq_true_eq, List.all_eq_true] at ok
  obtain ⟨⟨o6, o7⟩, o1, o2, o3, o4, o5⟩ := ok
  have mo := cx.more
  unfold exOf at mo
  rw [Bool.and_eq_true] at mo
  refine ⟨fun k x e => ?_, fun x hx => ?_, fun f x e em => ?_, fun f c1 m em => ?_, fun c1 k hk => ?_, fun q hq => ?_⟩
  · have lt : k < p.gl.length := by
      rw [← o3]
      exact (List.getElem?_eq_some_iff.mp e).1
    have e2 : p.gl[k]? = some p.gl[k] := List.getElem?_eq_getElem lt
    have mem : glFa x p.gl[k] ∈ faOf p ds := by
      refine List.mem_append_right _ (List.mem_append_right _ (List.mem_append_left _ (List.mem_map.mpr ⟨(x, p.gl[k]), ?_, rfl⟩)))
      exact List.mem_of_getElem? (List.getElem?_zip_eq_some.mpr ⟨e, e2⟩)
    have go := o4 _ (List.getElem_mem lt)
    have ft := c.facts mem
    have mx : (match p.gl[k] with
      | .tup ds => He.tupB K x (ds.map dvOf)
      | _ => true) = true := List.all_eq_true.mp mo.1 (x, p.gl[k]) (List.mem_of_getElem? (List.getElem?_zip_eq_some.mpr ⟨e, e2⟩))
    generalize p.gl[k] = d at e2 go ft mx
    cases d <;> first | exact absurd go Bool.false_ne_true | skip
    · obtain ⟨t, q⟩ := He.int_ok X G ft
      exact ⟨_, .int _, _, e2, q, ⟨t, rfl⟩, rfl, fun g => .int _⟩
    · obtain ⟨t, q⟩ := He.str_ok X G ft
      exact ⟨_, .str _, _, e2, q, ⟨t, rfl⟩, rfl, fun g => .str _ (strOkB_ok go)⟩
    · rename_i ts
      have go : (ts.all itemOk && decide (ts.length ≤ sizeLine)) = true := go
      rw [Bool.and_eq_true, decide_eq_true_eq] at go
      exact ⟨_, .ref (He.ga K x), _, e2, He.glo_ok X G ft, rfl, rfl, fun g => .tup (He.tupB_ok mx g.G) (by rw [List.length_map, List.length_map]; exact go.2) (reps_items go.1)⟩
  · exact He.free_ok X G (c.facts (List.mem_append_right _ (List.mem_append_left _ (List.mem_map.mpr ⟨x, hx, rfl⟩))))
  · have lt : f < ds.length := by
      have := (List.getElem?_eq_some_iff.mp e).1
      rw [o1, List.length_map] at this
      exact this
    obtain ⟨F, fd, m, q0, q1, q7, q8, q2, q3, q4, q5, _, q6⟩ := fact_fn X G c ok0 hb (List.getElem?_eq_getElem lt)
    rw [q0] at e
    cases e
    rw [em] at q7
    cases q7
    generalize ds[f] = d at q1 q8 q2 q3 q4 q5 q6
    have hc : d.cls = none := by
      unfold mtOk at q8
      simpa using q8
    have e1 : d.at_ = (d.x, none) := by
      unfold Df.at_
      rw [hc]
    have e2 : d.fa = .glo d.x := by
      unfold Df.fa
      rw [hc]
    rw [e1] at q4
    rw [e2] at q5
    exact ⟨F, d, He.ga K d.x, fd, q1, rfl, q2, q3, q4, He.glo_ok X G q5, q6⟩
  · have lt : f < ds.length := by
      rw [← o6]
      exact (List.getElem?_eq_some_iff.mp em).1
    obtain ⟨F, fd, m', q0, q1, q7, q8, q2, q3, q4, q5, q9, q6⟩ := fact_fn X G c ok0 hb (List.getElem?_eq_getElem lt)
    rw [em] at q7
    cases q7
    generalize ds[f] = d at q0 q1 q8 q2 q3 q4 q5 q6 q9
    unfold mtOk at q8
    rw [Bool.and_eq_true, decide_eq_true_eq] at q8
    obtain ⟨k1, k2⟩ := q8
    dsimp only at k1 k2
    subst k1
    cases hc : d.cls with
    | none =>
      rw [hc] at k2
      cases k2
    | some C =>
      cases hk : p.cls[c1]? with
      | none =>
        rw [hc, hk] at k2
        cases k2
      | some k =>
        rw [hc, hk] at k2
        have k2 : decide (C = k.1) = true := k2
        rw [decide_eq_true_eq] at k2
        have eca : caOf K p c1 = He.ga K C := by
          unfold caOf
          rw [hk, k2]
        have e1 : d.at_ = (C, some d.x) := by
          unfold Df.at_
          rw [hc]
        have e2 : d.fa = .meth C d.x := by
          unfold Df.fa
          rw [hc]
        rw [e1] at q4
        rw [e2] at q5
        have mt := He.meth_ok q5
        refine ⟨F, d, He.ma K (He.ga K C) d.x, fd, q1, q0, rfl, q2, q3, q4, by rw [eca]; exact mt, fun ei => ?_, q6⟩
        rw [eca]
        have := He.mkr_ok (x := C) (q9 (.mkr C) (by
          unfold Df.fm
          rw [hc]
          dsimp only
          rw [if_pos ei]
          exact List.mem_singleton.mpr rfl))
        rw [ei]
        exact this
  · have eca : caOf K p c1 = He.ga K k.1 := by
      unfold caOf
      rw [hk]
    have mem : ∀ a, a ∈ He.Fa.glo k.1 :: He.Fa.cls k.1 :: k.2.map (He.Fa.noat k.1) → a ∈ faOf p ds := fun a ha => List.mem_append_right _ (List.mem_append_right _ (List.mem_append_right _ (List.mem_append_right _ (List.mem_append_left _ (List.mem_flatMap.mpr ⟨k, List.mem_of_getElem? hk, ha⟩)))))
    rw [eca]
    exact ⟨He.glo_ok X G (c.facts (mem _ List.mem_cons_self)), He.cls_ok (c.facts (mem _ (List.mem_cons_of_mem _ List.mem_cons_self))), fun x hx => He.noat_ok (c.facts (mem _ (List.mem_cons_of_mem _ (List.mem_cons_of_mem _ (List.mem_map.mpr ⟨x, hx, rfl⟩)))))⟩
  · have gq := He.glo_ok X G (c.facts (f := .glo q.1) (List.mem_append_right _ (List.mem_append_right _ (List.mem_append_right _ (List.mem_append_right _ (List.mem_append_right _ (List.mem_map.mpr ⟨q, hq, rfl⟩)))))))
    obtain ⟨i, hi⟩ := List.mem_iff_getElem?.mp hq
    obtain ⟨es, n, D⟩ := cx.t.tab i (t := (fun K => He.ga K q.1, q.2.map (·.1))) (by
      unfold tabsOf
      rw [List.getElem?_map, hi]
      rfl)
    exact ⟨He.ga K q.1, gq, dctB_at D (List.all_eq_true.mp mo.2 q hq)⟩
/-- what the head's end asks of a law -/
theorem law_fin {P : Program} {w : World} {x : Str} {li n : Nat} (X : K.In h) (G : h.Ns mainGlobals mg) (cx : He.SaysX (faOf p ds) (ds.map Df.toD) (tabsOf p) [] (exOf p) w h K) (ok : allOk p ds = true) (hb : ∀ d ∈ ds, Bnd d) {d : Df} (hd : ds[li]? = some d) (hg : d.cls = none) (hx : d.ps = [x]) {fa : Addr} (hfa : mg d.x = some (.ref fa))
    (hrun : ∀ ns : List Int, ns.length ≤ 63 → ∃ S, run p.prog n li [.fz (ns.map .int)] [] = .ok (.bl true) S) : ∃ (fd : FuncData) (sp : Sp), (∀ (s : Shared) (v : Value), BindsTo s fd ⟨[v], []⟩ [(x, v)]) ∧
    (∀ (H : Hp) (a : Addr) (ns : List Int), ns.length ≤ 63 → SqL K H a (ns.map V.int) → sp [.ref a] H (fun v _ => v = .bl true) fun _ _ _ => False) ∧ ∀ base : Heap, K.In base → base.Ns mainGlobals mg → FnG P w K mg base (L2.CX P w) (2 * n) fa fd [x] sp := by
  have fx : Facts K (caOf K p) mg w p := facts_of X G cx ok hb
  have c := cx.t.d
  obtain ⟨F, fd, m, q0, q1, _, _, q2, q3, q4, q5, _, q6⟩ := fact_fn X G c ok hb hd
  have e1 : d.at_ = (d.x, none) := by
    unfold Df.at_
    rw [hg]
  have e2 : d.fa = .glo d.x := by
    unfold Df.fa
    rw [hg]
  rw [e1] at q4
  rw [e2] at q5
  have q5 := He.glo_ok X G q5
  rw [hfa] at q5
  have q4 : FunD K d.x d.qual d.params d.body d.scope [] [] (He.ga K d.x) fd := q4
  have ea : He.ga K d.x = fa := (Value.ref.inj (Option.some.inj q5)).symm
  rw [ea] at q4
  have np : F.np = 1 := by
    have := q2
    unfold Df.ok at this
    simp only [Bool.and_eq_true, decide_eq_true_eq] at this
    rw [this.1, hx]
    rfl
  refine ⟨fd, spR K (caOf K p) (run p.prog n) li F, fun s v => ?_, fun H a ns hl hS => ?_, fun base _ _ => ?_⟩
  · have b := FunD.bindsA (ps := d.ps) q4 q6 s [v] (by rw [hx]; rfl)
    rw [hx] at b
    exact b
  · obtain ⟨S, e⟩ := hrun ns hl
    exact law_start e np hl hS
  · have b := fn_all (P := P) (w := w) (base := base) fx n li d.x F d _ fd q0 q1 rfl q2 q3 q4
    rw [hx] at b
    exact b
end
end VE

set_option Elab.async false
set_option linter.all false
set_option maxRecDepth 100000
set_option maxHeartbeats 0
/-! the own syntax of the law's program, its checks, its head -/
namespace VP59
open PySem PySem.Spec PyProof.Rows L2 VE
abbrev R : PySem.W.OpenRow := PySem.W.OpenLaw.row PySem.Challenge.rw_hourcoin_k59_whole_books_read_back
def top (i : Nat) : Stmt := (PySem.Challenge.rw_hourcoin_k59_whole_books_read_back).prog.main.body.getD i (.Pass ⟨0, 0, 0, 0⟩)
def f_is_whole : Fn := ⟨3, 3, false, [
  .ret (.an [.isi (.v 0) .int, .no (.isi (.v 0) .bool), .chn .le .le (.v 1) (.v 0) (.v 2)])]⟩
def f_two_figures : Fn := ⟨1, 1, true, [
  .ret (.bin .add (.bi .str [.bin .fdiv (.v 0) (.int 10)]) (.bi .str [.bin .mod (.v 0) (.int 10)]))]⟩
def f_show_clock : Fn := ⟨1, 1, true, [
  .ret (.bin .add (.bin .add (.call 1 [.bin .fdiv (.v 0) (.int 60)]) (.str ":")) (.call 1 [.bin .mod (.v 0) (.int 60)]))]⟩
def f_are_figures : Fn := ⟨1, 2, false, [
  .ret (.an [.cmp .ne (.v 0) (.str ""), .bi .all [.comp (.cmp .isin (.v 1) (.g 0)) (.n 1) (.v 0) []]])]⟩
def f_read_clock : Fn := ⟨1, 4, true, [
  .asgT (.t [.n 1, .n 2, .n 3]) (.me .partition (.v 0) [.str ":"]),
  .iff (.orr [.cmp .eq (.v 2) (.str ""), .cmp .ne (.bi .len [.v 1]) (.int 2), .cmp .ne (.bi .len [.v 3]) (.int 2), .no (.call 3 [.bin .add (.v 1) (.v 3)])]) [.ret (.non)] [],
  .iff (.orr [.cmp .gt (.bi .int [.v 1]) (.int 23), .cmp .gt (.bi .int [.v 3]) (.int 59)]) [.ret (.non)] [],
  .ret (.bin .add (.bin .mul (.int 60) (.bi .int [.v 1])) (.bi .int [.v 3]))]⟩
def f_is_name : Fn := ⟨1, 2, true, [
  .iff (.orr [.no (.isi (.v 0) .str), .no (.chn .le .le (.int 1) (.bi .len [.v 0]) (.g 1))]) [.ret (.bl false)] [],
  .ret (.bi .all [.comp (.cmp .isin (.v 1) (.g 2)) (.n 1) (.v 0) []])]⟩
def f_are_rising : Fn := ⟨1, 3, true, [
  .ret (.bi .all [.comp (.cmp .lt (.v 1) (.v 2)) (.t [.n 1, .n 2]) (.zip (.v 0) (.sl (.v 0) (.int 1) (.non))) []])]⟩
def f_are_weekdays : Fn := ⟨1, 2, false, [
  .iff (.orr [.no (.isi (.v 0) .tuple), .cmp .eq (.v 0) (.tup [])]) [.ret (.bl false)] [],
  .ret (.an [.bi .all [.comp (.call 0 [.v 1, .int 0, .int 6]) (.n 1) (.v 0) []], .call 6 [.v 0]])]⟩
def f_is_condition : Fn := ⟨1, 2, false, [
  .iff (.orr [.no (.isi (.v 0) .tuple), .cmp .eq (.v 0) (.tup []), .no (.isi (.ix (.v 0) (.int 0)) .str)]) [.ret (.bl false)] [],
  .asg 1 (.ix (.v 0) (.int 0)),
  .iff (.cmp .eq (.v 1) (.str "feast")) [.ret (.cmp .eq (.bi .len [.v 0]) (.int 1))] [],
  .iff (.cmp .eq (.v 1) (.str "days")) [.ret (.an [.cmp .eq (.bi .len [.v 0]) (.int 2), .call 7 [.ix (.v 0) (.int 1)]])] [],
  .iff (.din "COUNTS" [("day", 1440), ("week", 10080)] (.v 1)) [.ret (.an [.cmp .eq (.bi .len [.v 0]) (.int 2), .call 0 [.ix (.v 0) (.int 1), .int 1, .dix "COUNTS" [("day", 1440), ("week", 10080)] (.v 1)]])] [],
  .iff (.orr [.cmp .ne (.v 1) (.str "clock"), .cmp .ne (.bi .len [.v 0]) (.int 3)]) [.ret (.bl false)] [],
  .ret (.an [.call 0 [.ix (.v 0) (.int 1), .int 0, .bin .sub (.g 3) (.int 1)], .call 0 [.ix (.v 0) (.int 2), .int 0, .bin .sub (.g 3) (.int 1)], .cmp .ne (.ix (.v 0) (.int 1)) (.ix (.v 0) (.int 2))])]⟩
def f_is_rule : Fn := ⟨1, 7, true, [
  .iff (.orr [.no (.isi (.v 0) .tuple), .cmp .ne (.bi .len [.v 0]) (.int 4)]) [.ret (.bl false)] [],
  .asgT (.t [.n 2, .n 3, .n 4, .n 5]) (.v 0),
  .iff (.orr [.no (.call 5 [.v 2]), .no (.call 0 [.v 3, .int 0, .g 4]), .no (.call 5 [.v 4])]) [.ret (.bl false)] [],
  .iff (.orr [.no (.isi (.v 5) .tuple), .no (.bi .all [.comp (.call 8 [.v 6]) (.n 6) (.v 5) []])]) [.ret (.bl false)] [],
  .asg 1 (.comp (.ix (.v 6) (.int 0)) (.n 6) (.v 5) []),
  .ret (.cmp .eq (.lset (.v 1)) (.bi .len [.v 1]))]⟩
def f_is_rate : Fn := ⟨1, 1, false, [
  .iff (.orr [.no (.isi (.v 0) .tuple), .cmp .ne (.bi .len [.v 0]) (.int 2)]) [.ret (.bl false)] [],
  .ret (.an [.call 5 [.ix (.v 0) (.int 0)], .call 0 [.ix (.v 0) (.int 1), .int 0, .g 5]])]⟩
def f_are_rates : Fn := ⟨1, 2, true, [
  .iff (.orr [.no (.isi (.v 0) .tuple), .no (.bi .all [.comp (.call 10 [.v 1]) (.n 1) (.v 0) []])]) [.ret (.bl false)] [],
  .ret (.call 6 [.comp (.ix (.v 1) (.int 0)) (.n 1) (.v 0) []])]⟩
def f_are_rules : Fn := ⟨1, 3, true, [
  .iff (.orr [.no (.isi (.v 0) .tuple), .cmp .gt (.bi .len [.v 0]) (.g 6), .no (.bi .all [.comp (.call 9 [.v 2]) (.n 2) (.v 0) []])]) [.ret (.bl false)] [],
  .asg 1 (.comp (.ix (.v 2) (.int 0)) (.n 2) (.v 0) []),
  .ret (.cmp .eq (.lset (.v 1)) (.bi .len [.v 1]))]⟩
def f_is_book : Fn := ⟨1, 8, true, [
  .iff (.orr [.no (.isi (.v 0) .tuple), .cmp .ne (.bi .len [.v 0]) (.int 3)]) [.ret (.bl false)] [],
  .asgT (.t [.n 2, .n 3, .n 4]) (.v 0),
  .iff (.orr [.no (.call 5 [.v 2]), .no (.call 11 [.v 3]), .no (.call 12 [.v 4])]) [.ret (.bl false)] [],
  .asg 1 (.comp (.ix (.v 5) (.int 0)) (.n 5) (.v 3) []),
  .ret (.bi .all [.comp (.cmp .isin (.v 6) (.v 1)) (.n 6) (.bin .add (.lst [.v 2]) (.comp (.ix (.v 7) (.int 2)) (.n 7) (.v 4) [])) []])]⟩
def f_rows_of : Fn := ⟨1, 1, false, [
  .ret (.ite (.cmp .ne (.v 0) (.str "")) (.me .split (.v 0) [.str "\n"]) (.lst []))]⟩
def f_number_in : Fn := ⟨1, 2, true, [
  .iff (.orr [.no (.chn .le .le (.int 1) (.bi .len [.v 0]) (.int 7)), .an [.cmp .eq (.ix (.v 0) (.int 0)) (.str "0"), .cmp .ne (.v 0) (.str "0")]]) [.ret (.non)] [],
  .iff (.no (.bi .all [.comp (.cmp .isin (.v 1) (.g 7)) (.n 1) (.v 0) []])) [.ret (.non)] [],
  .ret (.bi .int [.v 0])]⟩
def f_condition_words : Fn := ⟨1, 4, true, [
  .iff (.cmp .eq (.ix (.v 0) (.int 0)) (.str "clock")) [.ret (.bin .add (.lst [.str "clock"]) (.comp (.call 2 [.v 2]) (.n 2) (.sl (.v 0) (.int 1) (.non)) []))] [],
  .iff (.cmp .eq (.ix (.v 0) (.int 0)) (.str "days")) [.ret (.lst [.str "days", .me .join (.str "") [.comp (.bi .str [.v 3]) (.n 3) (.ix (.v 0) (.int 1)) []]])] [],
  .ret (.bin .add (.lst [.ix (.v 0) (.int 0)]) (.comp (.bi .str [.v 1]) (.n 1) (.sl (.v 0) (.int 1) (.non)) []))]⟩
def f_rule_row : Fn := ⟨1, 3, true, [
  .asg 1 (.lst [.str "rule", .ix (.v 0) (.int 0), .bi .str [.ix (.v 0) (.int 1)], .ix (.v 0) (.int 2)]),
  .forr (.n 2) (.ix (.v 0) (.int 3)) [.extd 1 (.call 16 [.v 2])],
  .ret (.me .join (.str " ") [.v 1])]⟩
def f_show_book : Fn := ⟨1, 8, true, [
  .asgT (.t [.n 2, .n 3, .n 4]) (.v 0),
  .asg 1 (.bin .add (.comp (.bin .add (.bin .add (.bin .add (.str "rate ") (.v 5)) (.str " ")) (.bi .str [.v 6])) (.t [.n 5, .n 6]) (.v 3) []) (.lst [.bin .add (.str "base ") (.v 2)])),
  .ret (.me .join (.str "\n") [.bin .add (.v 1) (.comp (.call 17 [.v 7]) (.n 7) (.v 4) [])])]⟩
def f_condition_by : Fn := ⟨1, 3, true, [
  .iff (.cmp .eq (.ix (.v 0) (.int 0)) (.str "clock")) [.ret (.bin .add (.tup [.str "clock"]) (.bi .tuple [.comp (.call 4 [.v 1]) (.n 1) (.sl (.v 0) (.int 1) (.non)) []]))] [],
  .iff (.cmp .eq (.ix (.v 0) (.int 0)) (.str "days")) [.ret (.tup [.str "days", .bi .tuple [.comp (.call 15 [.v 2]) (.n 2) (.ix (.v 0) (.int 1)) []]])] [],
  .ret (.bin .add (.tup [.ix (.v 0) (.int 0)]) (.bi .tuple [.comp (.call 15 [.v 1]) (.n 1) (.sl (.v 0) (.int 1) (.non)) []]))]⟩
def f_conditions_by : Fn := ⟨1, 4, true, [
  .asg 1 (.lst []),
  .asg 2 (.int 0),
  .whil (.cmp .lt (.v 2) (.bi .len [.v 0])) [.asg 3 (.dget "LENGTHS" [("clock", 3), ("days", 2), ("feast", 1), ("day", 2), ("week", 2)] (.ix (.v 0) (.v 2)) (.bin .add (.bi .len [.v 0]) (.int 1))), .iff (.cmp .gt (.bin .add (.v 2) (.v 3)) (.bi .len [.v 0])) [.ret (.non)] [], .app 1 (.call 19 [.sl (.v 0) (.v 2) (.bin .add (.v 2) (.v 3))]), .asg 2 (.bin .add (.v 2) (.v 3)), .frz [2]],
  .ret (.bi .tuple [.v 1])]⟩
def f_rule_by : Fn := ⟨1, 3, false, [
  .asg 1 (.me .split (.v 0) [.str " "]),
  .iff (.orr [.cmp .ne (.ix (.v 1) (.int 0)) (.str "rule"), .cmp .lt (.bi .len [.v 1]) (.int 4)]) [.ret (.non)] [],
  .asg 2 (.tup [.ix (.v 1) (.int 1), .call 15 [.ix (.v 1) (.int 2)], .ix (.v 1) (.int 3), .call 20 [.sl (.v 1) (.int 4) (.non)]]),
  .iff (.orr [.no (.call 9 [.v 2]), .cmp .ne (.call 17 [.v 2]) (.v 0)]) [.ret (.non)] [],
  .ret (.v 2)]⟩
def f_rate_by : Fn := ⟨1, 3, true, [
  .asg 1 (.me .split (.v 0) [.str " "]),
  .iff (.orr [.cmp .ne (.bi .len [.v 1]) (.int 3), .cmp .ne (.ix (.v 1) (.int 0)) (.str "rate"), .no (.call 5 [.ix (.v 1) (.int 1)])]) [.ret (.non)] [],
  .asg 2 (.call 15 [.ix (.v 1) (.int 2)]),
  .iff (.orr [.isN (.v 2), .cmp .gt (.v 2) (.g 8)]) [.ret (.non)] [],
  .frz [2],
  .ret (.tup [.ix (.v 1) (.int 1), .v 2])]⟩
def f_Reader___init__ : Fn := ⟨1, 1, true, [
  .fset 0 0 "base" false (.non),
  .fset 0 0 "rates" true (.lst []),
  .fset 0 0 "rules" true (.lst [])]⟩
def f_Reader_has_sort : Fn := ⟨2, 4, true, [
  .ret (.cmp .isin (.v 1) (.fcomp 0 0 "rates" (.t [.n 2, .n 3]) (.v 2)))]⟩
def f_Reader_take_rate : Fn := ⟨2, 3, true, [
  .asg 2 (.call 22 [.v 1]),
  .iff (.orr [.isN (.v 2), .an [.fne 0 0 "rates", .cmp .le (.ix (.v 2) (.int 0)) (.ix (.fix 0 0 "rates" (-1)) (.int 0))]]) [.ret (.bl false)] [],
  .frz [2],
  .fapp 0 0 "rates" 2,
  .ret (.bl true)]⟩
def f_Reader_take_base : Fn := ⟨2, 5, true, [
  .asgT (.t [.n 2, .n 3, .n 4]) (.me .partition (.v 1) [.str " "]),
  .iff (.orr [.cmp .ne (.v 2) (.str "base"), .no (.mcall 0 24 0 "has_sort" [.v 4])]) [.ret (.bl false)] [],
  .fset 0 0 "base" false (.v 4),
  .ret (.bl true)]⟩
def f_Reader_take_rule : Fn := ⟨2, 4, true, [
  .asg 2 (.call 21 [.v 1]),
  .iff (.orr [.isN (.v 2), .cmp .eq (.flen 0 0 "rules") (.g 9), .no (.mcall 0 24 0 "has_sort" [.ix (.v 2) (.int 2)])]) [.ret (.bl false)] [],
  .iff (.cmp .isin (.ix (.v 2) (.int 0)) (.fcomp 0 0 "rules" (.n 3) (.ix (.v 3) (.int 0)))) [.ret (.bl false)] [],
  .fapp 0 0 "rules" 2,
  .ret (.bl true)]⟩
def f_Reader_take : Fn := ⟨2, 2, false, [
  .iff (.notN (.fld 0 0 "base")) [.ret (.mcall 0 27 0 "take_rule" [.v 1])] [],
  .ret (.orr [.mcall 0 25 0 "take_rate" [.v 1], .mcall 0 26 0 "take_base" [.v 1]])]⟩
def f_read_book : Fn := ⟨1, 5, true, [
  .iff (.no (.isi (.v 0) .str)) [.bad] [],
  .asg 1 (.new 0 23 []),
  .asg 2 (.call 14 [.v 0]),
  .forr (.t [.n 3, .n 4]) (.enum (.v 2)) [.iff (.no (.mcall 0 28 1 "take" [.v 4])) [.bad] []],
  .iff (.isN (.fld 0 1 "base")) [.bad] [],
  .ret (.tup [.fld 0 1 "base", .ftup 0 1 "rates", .ftup 0 1 "rules"])]⟩
def f__law_tape : Fn := ⟨1, 1, false, [
  .ret (.box [.sl (.v 0) (.non) (.int 63), .int 0, .int 0])]⟩
def f__law_draw : Fn := ⟨2, 8, true, [
  .iff (.cmp .gt (.ix (.v 0) (.int 2)) (.int 0)) [.asg 7 (.bin .mod (.ix (.v 0) (.int 2)) (.v 1)), .bset (.v 0) (.int 2) (.bin .fdiv (.ix (.v 0) (.int 2)) (.v 1)), .ret (.v 7)] [],
  .asg 2 (.ix (.v 0) (.int 1)),
  .bset (.v 0) (.int 1) (.bin .add (.v 2) (.int 1)),
  .asg 3 (.int 0),
  .iff (.cmp .ne (.ix (.v 0) (.int 0)) (.lst [])) [.asg 3 (.ix (.ix (.v 0) (.int 0)) (.bin .mod (.v 2) (.bi .len [.ix (.v 0) (.int 0)])))] [],
  .iff (.an [.cmp .ge (.v 3) (.bin .pow (.int 10) (.int 18)), .cmp .lt (.v 2) (.bi .len [.ix (.v 0) (.int 0)])]) [.bset (.v 0) (.int 2) (.bin .fdiv (.bin .sub (.v 3) (.bin .pow (.int 10) (.int 18))) (.v 1)), .ret (.bin .mod (.bin .sub (.v 3) (.bin .pow (.int 10) (.int 18))) (.v 1))] [],
  .asg 4 (.lst [.int 2147483647, .int 2147483629, .int 2147483587, .int 2147483579, .int 2147483563]),
  .asg 5 (.ix (.v 4) (.bin .mod (.v 2) (.int 5))),
  .asg 6 (.bin .mod (.bin .add (.bin .add (.bin .add (.bin .mul (.bin .mod (.v 3) (.v 5)) (.int 48271)) (.bin .mul (.bin .mul (.int 7919) (.v 2)) (.v 2))) (.bin .mul (.int 69621) (.v 2))) (.int 1)) (.v 5)),
  .asg 6 (.bin .mod (.bin .mul (.v 6) (.bin .add (.v 6) (.int 16807))) (.ix (.v 4) (.bin .mod (.bin .add (.v 2) (.int 2)) (.int 5)))),
  .ret (.bin .mod (.bin .fdiv (.bin .mod (.bin .mul (.v 6) (.v 6)) (.int 2147483549)) (.int 64)) (.v 1))]⟩
def f__law_pick : Fn := ⟨2, 2, false, [
  .ret (.ix (.v 1) (.call 31 [.v 0, .bi .len [.v 1]]))]⟩
def f__law_names : Fn := ⟨1, 10, true, [
  .asg 1 (.str "abcdefghijklmnopqrstuvwxyz"),
  .asg 2 (.call 31 [.v 0, .int 12]),
  .iff (.cmp .eq (.call 31 [.v 0, .int 5]) (.int 0)) [.asg 6 (.lst [.str "rate", .str "base", .str "rule", .str "clock", .str "days", .str "feast", .str "day", .str "week", .str "a", .str "ab", .str "abcdefgh", .str "z"]), .ret (.bin .add (.sl (.v 6) (.v 2) (.non)) (.sl (.v 6) (.non) (.v 2)))] [],
  .asg 3 (.me .join (.str "") [.comp (.ix (.v 1) (.call 31 [.v 0, .int 26])) (.n 9) (.rng [.bin .add (.int 1) (.call 31 [.v 0, .int 8])]) []]),
  .asgT (.t [.n 7, .n 8]) (.tup [.call 31 [.v 0, .bi .len [.v 3]], .call 31 [.v 0, .int 26]]),
  .asg 4 (.ix (.lst [.int 1, .int 3, .int 5, .int 7, .int 9, .int 11, .int 15, .int 17, .int 19, .int 21, .int 23, .int 25]) (.v 2)),
  .asg 5 (.comp (.sl (.sl (.v 3) (.bin .add (.v 7) (.int 1)) (.non)) (.non) (.call 31 [.v 0, .int 8])) (.n 9) (.rng [.int 12]) []),
  .ret (.comp (.bin .add (.bin .add (.sl (.v 3) (.non) (.v 7)) (.ix (.v 1) (.bin .mod (.bin .add (.v 8) (.bin .mul (.v 4) (.v 9))) (.int 26)))) (.ix (.v 5) (.v 9))) (.n 9) (.rng [.int 12]) [])]⟩
def f__law_pools : Fn := ⟨2, 6, true, [
  .asg 2 (.comp (.ix (.lst [.int 0, .int 1, .int 1439, .bin .mul (.int 60) (.call 31 [.v 0, .int 24]), .call 31 [.v 0, .int 1440]]) (.call 31 [.v 0, .int 5])) (.n 5) (.rng [.ix (.v 1) (.int 0)]) []),
  .asg 3 (.comp (.ix (.lst [.bin .add (.int 1) (.call 31 [.v 0, .int 4]), .int 480, .bin .add (.int 1) (.call 31 [.v 0, .int 1440]), .int 1440]) (.call 31 [.v 0, .int 4])) (.n 5) (.rng [.ix (.v 1) (.int 1)]) []),
  .asg 4 (.lst []),
  .forr (.n 5) (.rng [.ix (.v 1) (.int 2)]) [.app 4 (.ix (.lst [.bin .add (.int 1) (.call 31 [.v 0, .int 6]), .int 1441, .bin .add (.int 1) (.call 31 [.v 0, .int 10080]), .int 2400]) (.call 31 [.v 0, .int 4]))],
  .frz [2, 3, 4],
  .ret (.lst [.v 2, .v 3, .v 4])]⟩
def f__law_condition : Fn := ⟨3, 7, true, [
  .iff (.cmp .eq (.v 2) (.str "feast")) [.ret (.tup [.str "feast"])] [],
  .iff (.cmp .eq (.v 2) (.str "days")) [.asg 3 (.bin .add (.int 1) (.call 31 [.v 0, .int 127])), .ret (.tup [.str "days", .bi .tuple [.comp (.v 6) (.n 6) (.rng [.int 7]) [.cmp .eq (.bin .band (.bin .shr (.v 3) (.v 6)) (.int 1)) (.int 1)]]])] [],
  .iff (.cmp .eq (.v 2) (.str "clock")) [.par [4, 5] [.call 32 [.v 0, .ix (.v 1) (.int 0)], .call 32 [.v 0, .ix (.v 1) (.int 0)]], .ret (.tup [.str "clock", .v 4, .ix (.lst [.v 5, .bin .mod (.bin .add (.v 4) (.int 1)) (.int 1440)]) (.bi .int [.cmp .eq (.v 4) (.v 5)])])] [],
  .ret (.tup [.v 2, .call 32 [.v 0, .ix (.v 1) (.bin .add (.int 1) (.bi .int [.cmp .eq (.v 2) (.str "week")]))]])]⟩
def f__law_rules : Fn := ⟨5, 14, true, [
  .par [6, 7] [.call 31 [.v 0, .int 5], .lst []],
  .forr (.n 5) (.rng [.call 31 [.v 0, .bin .add (.v 4) (.int 1)]]) [.asgT (.t [.n 11, .n 12]) (.tup [.call 31 [.v 0, .int 5], .bin .add (.int 1) (.call 31 [.v 0, .int 3])]), .asg 8 (.sl (.lst [.str "clock", .str "days", .str "feast", .str "day", .str "week", .str "clock", .str "days", .str "feast", .str "day"]) (.v 11) (.bin .add (.v 11) (.int 5))), .frz [8], .asg 9 (.comp (.call 35 [.v 0, .v 1, .v 13]) (.n 13) (.v 8) [.cmp .lt (.call 31 [.v 0, .int 6]) (.v 12)]), .asg 10 (.ix (.lst [.bin .mul (.int 9) (.v 5), .bin .sub (.int 50) (.v 5), .call 31 [.v 0, .int 2], .bin .mul (.int 99) (.call 31 [.v 0, .int 2]), .call 31 [.v 0, .int 100]]) (.v 6)), .app 7 (.tup [.ix (.v 2) (.v 5), .v 10, .call 32 [.v 0, .v 3], .bi .tuple [.v 9]]), .frz [9]],
  .ret (.bi .tuple [.v 7])]⟩
def f__law_book : Fn := ⟨3, 7, true, [
  .asg 3 (.call 33 [.v 0]),
  .asg 4 (.bi .sorted [.sl (.v 3) (.non) (.bin .add (.int 1) (.call 31 [.v 0, .ix (.lst [.int 4, .int 9]) (.call 31 [.v 0, .int 2])]))]),
  .frz [4],
  .asg 5 (.comp (.ix (.lst [.call 31 [.v 0, .int 3], .call 31 [.v 0, .bin .add (.bin .pow (.int 10) (.int 6)) (.int 1)], .bin .pow (.int 10) (.int 6)]) (.call 31 [.v 0, .int 3])) (.n 6) (.v 4) []),
  .ret (.tup [.call 32 [.v 0, .v 4], .tzip (.v 4) (.v 5), .call 36 [.v 0, .v 1, .sl (.v 3) (.int 3) (.non), .v 4, .v 2]])]⟩
def f__law_wide : Fn := ⟨1, 12, true, [
  .asg 1 (.call 34 [.v 0, .tup [.int 4, .int 3, .int 3]]),
  .frz [1],
  .asgT (.t [.n 6, .n 7, .n 8]) (.call 37 [.v 0, .v 1, .int 8]),
  .asg 2 (.comp (.v 10) (.t [.n 10, .n 11]) (.v 7) []),
  .asg 3 (.comp (.v 9) (.n 9) (.sl (.call 33 [.v 0]) (.non) (.call 31 [.v 0, .int 9])) [.cmp .notin (.v 9) (.v 2)]),
  .asg 4 (.lst [.int 0, .int 1, .int 9, .int 10, .int 100, .int 1000, .int 10000, .int 99999, .int 100000, .int 999999, .int 1000000, .int 305070]),
  .frz [3, 4],
  .asg 5 (.comp (.tup [.v 9, .call 32 [.v 0, .v 4]]) (.n 9) (.v 3) []),
  .ret (.tup [.v 6, .bi .tuple [.bi .sorted [.bin .add (.bi .list [.v 7]) (.v 5)]], .v 8])]⟩
def f__law_clock : Fn := ⟨1, 1, true, [
  .ret (.bin .add (.bin .add (.sl (.bi .str [.bin .add (.int 100) (.bin .fdiv (.v 0) (.int 60))]) (.int 1) (.non)) (.str ":")) (.sl (.bi .str [.bin .add (.int 100) (.bin .mod (.v 0) (.int 60))]) (.int 1) (.non)))]⟩
def f__law_words : Fn := ⟨1, 3, true, [
  .iff (.cmp .eq (.ix (.v 0) (.int 0)) (.str "clock")) [.ret (.lst [.str "clock", .call 39 [.ix (.v 0) (.int 1)], .call 39 [.ix (.v 0) (.int 2)]])] [],
  .iff (.cmp .eq (.ix (.v 0) (.int 0)) (.str "days")) [.ret (.lst [.str "days", .me .join (.str "") [.comp (.bi .str [.v 2]) (.n 2) (.ix (.v 0) (.int 1)) []]])] [],
  .ret (.comp (.bi .str [.v 1]) (.n 1) (.v 0) [])]⟩
def f__law_text : Fn := ⟨1, 12, true, [
  .asgT (.t [.n 2, .n 3, .n 4]) (.v 0),
  .asg 1 (.bin .add (.comp (.bin .add (.bin .add (.bin .add (.str "rate ") (.v 7)) (.str " ")) (.bi .str [.v 11])) (.t [.n 7, .n 11]) (.v 3) []) (.lst [.bin .add (.str "base ") (.v 2)])),
  .forr (.t [.n 5, .n 6, .n 7, .n 8]) (.v 4) [.asg 9 (.lst [.str "rule", .v 5, .bi .str [.v 6], .v 7]), .forr (.n 10) (.v 8) [.asg 9 (.bin .add (.v 9) (.call 40 [.v 10]))], .app 1 (.me .join (.str " ") [.v 9]), .frz [9]],
  .ret (.me .join (.str "\n") [.v 1])]⟩
def f_law : Fn := ⟨1, 8, true, [
  .asg 1 (.call 30 [.v 0]),
  .asg 2 (.comp (.call 38 [.v 1]) (.n 6) (.rng [.int 3]) []),
  .asg 3 (.ix (.call 33 [.v 1]) (.int 0)),
  .app 2 (.tup [.v 3, .tup [.tup [.v 3, .call 31 [.v 1, .int 3]]], .tup []]),
  .forr (.n 4) (.bin .add (.v 2) (.sl (.v 2) (.non) (.int 1))) [.forr (.n 5) (.tup [.call 41 [.v 4], .call 18 [.v 4]]) [.asg 7 (.call 29 [.v 5]), .frz [7], .iff (.orr [.cmp .ne (.bi .repr [.v 7]) (.bi .repr [.v 4]), .notB (.call 13 [.v 7]) true, .cmp .ne (.call 18 [.v 7]) (.v 5)]) [.ret (.bl false)] []]],
  .ret (.bl true)]⟩
def d_is_whole : Df := ⟨"is_whole", ["thing", "least", "most"], ["thing", "least", "most"], "is_whole", defArgs (top 7), defBody (top 7), defScope (top 7), none⟩
theorem b_is_whole : Bnd d_is_whole := fun _ _ _ _ _ _ us hl => match us, hl with | [_, _, _], _ => rfl
def d_two_figures : Df := ⟨"two_figures", ["number"], ["number"], "two_figures", defArgs (top 8), defBody (top 8), defScope (top 8), none⟩
theorem b_two_figures : Bnd d_two_figures := fun _ _ _ _ _ _ us hl => match us, hl with | [_], _ => rfl
def d_show_clock : Df := ⟨"show_clock", ["clock"], ["clock"], "show_clock", defArgs (top 9), defBody (top 9), defScope (top 9), none⟩
theorem b_show_clock : Bnd d_show_clock := fun _ _ _ _ _ _ us hl => match us, hl with | [_], _ => rfl
def d_are_figures : Df := ⟨"are_figures", ["word"], ["word", "sign"], "are_figures", defArgs (top 10), defBody (top 10), defScope (top 10), none⟩
theorem b_are_figures : Bnd d_are_figures := fun _ _ _ _ _ _ us hl => match us, hl with | [_], _ => rfl
def d_read_clock : Df := ⟨"read_clock", ["word"], ["word", "hours", "colon", "rest"], "read_clock", defArgs (top 11), defBody (top 11), defScope (top 11), none⟩
theorem b_read_clock : Bnd d_read_clock := fun _ _ _ _ _ _ us hl => match us, hl with | [_], _ => rfl
def d_is_name : Df := ⟨"is_name", ["thing"], ["thing", "sign"], "is_name", defArgs (top 19), defBody (top 19), defScope (top 19), none⟩
theorem b_is_name : Bnd d_is_name := fun _ _ _ _ _ _ us hl => match us, hl with | [_], _ => rfl
def d_are_rising : Df := ⟨"are_rising", ["things"], ["things", "one", "other"], "are_rising", defArgs (top 20), defBody (top 20), defScope (top 20), none⟩
theorem b_are_rising : Bnd d_are_rising := fun _ _ _ _ _ _ us hl => match us, hl with | [_], _ => rfl
def d_are_weekdays : Df := ⟨"are_weekdays", ["thing"], ["thing", "day"], "are_weekdays", defArgs (top 21), defBody (top 21), defScope (top 21), none⟩
theorem b_are_weekdays : Bnd d_are_weekdays := fun _ _ _ _ _ _ us hl => match us, hl with | [_], _ => rfl
def d_is_condition : Df := ⟨"is_condition", ["thing"], ["thing", "word"], "is_condition", defArgs (top 22), defBody (top 22), defScope (top 22), none⟩
theorem b_is_condition : Bnd d_is_condition := fun _ _ _ _ _ _ us hl => match us, hl with | [_], _ => rfl
def d_is_rule : Df := ⟨"is_rule", ["thing"], ["thing", "words", "name", "rank", "sort", "conditions", "one"], "is_rule", defArgs (top 23), defBody (top 23), defScope (top 23), none⟩
theorem b_is_rule : Bnd d_is_rule := fun _ _ _ _ _ _ us hl => match us, hl with | [_], _ => rfl
def d_is_rate : Df := ⟨"is_rate", ["thing"], ["thing"], "is_rate", defArgs (top 24), defBody (top 24), defScope (top 24), none⟩
theorem b_is_rate : Bnd d_is_rate := fun _ _ _ _ _ _ us hl => match us, hl with | [_], _ => rfl
def d_are_rates : Df := ⟨"are_rates", ["thing"], ["thing", "one"], "are_rates", defArgs (top 25), defBody (top 25), defScope (top 25), none⟩
theorem b_are_rates : Bnd d_are_rates := fun _ _ _ _ _ _ us hl => match us, hl with | [_], _ => rfl
def d_are_rules : Df := ⟨"are_rules", ["thing"], ["thing", "names", "one"], "are_rules", defArgs (top 26), defBody (top 26), defScope (top 26), none⟩
theorem b_are_rules : Bnd d_are_rules := fun _ _ _ _ _ _ us hl => match us, hl with | [_], _ => rfl
def d_is_book : Df := ⟨"is_book", ["thing"], ["thing", "sorts", "base", "rates", "rules", "one", "sort", "rule"], "is_book", defArgs (top 27), defBody (top 27), defScope (top 27), none⟩
theorem b_is_book : Bnd d_is_book := fun _ _ _ _ _ _ us hl => match us, hl with | [_], _ => rfl
def d_rows_of : Df := ⟨"rows_of", ["text"], ["text"], "rows_of", defArgs (top 33), defBody (top 33), defScope (top 33), none⟩
theorem b_rows_of : Bnd d_rows_of := fun _ _ _ _ _ _ us hl => match us, hl with | [_], _ => rfl
def d_number_in : Df := ⟨"number_in", ["word"], ["word", "figure"], "number_in", defArgs (top 34), defBody (top 34), defScope (top 34), none⟩
theorem b_number_in : Bnd d_number_in := fun _ _ _ _ _ _ us hl => match us, hl with | [_], _ => rfl
def d_condition_words : Df := ⟨"condition_words", ["condition"], ["condition", "number", "clock", "weekday"], "condition_words", defArgs (top 35), defBody (top 35), defScope (top 35), none⟩
theorem b_condition_words : Bnd d_condition_words := fun _ _ _ _ _ _ us hl => match us, hl with | [_], _ => rfl
def d_rule_row : Df := ⟨"rule_row", ["rule"], ["rule", "words", "condition"], "rule_row", defArgs (top 36), defBody (top 36), defScope (top 36), none⟩
theorem b_rule_row : Bnd d_rule_row := fun _ _ _ _ _ _ us hl => match us, hl with | [_], _ => rfl
def d_show_book : Df := ⟨"show_book", ["book"], ["book", "rows", "base", "rates", "rules", "sort", "rate", "rule"], "show_book", defArgs (top 37), defBody (top 37), defScope (top 37), none⟩
theorem b_show_book : Bnd d_show_book := fun _ _ _ _ _ _ us hl => match us, hl with | [_], _ => rfl
def d_condition_by : Df := ⟨"condition_by", ["words"], ["words", "word", "figure"], "condition_by", defArgs (top 38), defBody (top 38), defScope (top 38), none⟩
theorem b_condition_by : Bnd d_condition_by := fun _ _ _ _ _ _ us hl => match us, hl with | [_], _ => rfl
def d_conditions_by : Df := ⟨"conditions_by", ["words"], ["words", "found", "at", "long"], "conditions_by", defArgs (top 39), defBody (top 39), defScope (top 39), none⟩
theorem b_conditions_by : Bnd d_conditions_by := fun _ _ _ _ _ _ us hl => match us, hl with | [_], _ => rfl
def d_rule_by : Df := ⟨"rule_by", ["row"], ["row", "words", "rule"], "rule_by", defArgs (top 40), defBody (top 40), defScope (top 40), none⟩
theorem b_rule_by : Bnd d_rule_by := fun _ _ _ _ _ _ us hl => match us, hl with | [_], _ => rfl
def d_rate_by : Df := ⟨"rate_by", ["row"], ["row", "words", "rate"], "rate_by", defArgs (top 41), defBody (top 41), defScope (top 41), none⟩
theorem b_rate_by : Bnd d_rate_by := fun _ _ _ _ _ _ us hl => match us, hl with | [_], _ => rfl
def d_Reader___init__ : Df := ⟨"__init__", ["self"], ["self"], "Reader.__init__", defArgs (inClass (top 42) 0), defBody (inClass (top 42) 0), defScope (inClass (top 42) 0), some "Reader"⟩
theorem b_Reader___init__ : Bnd d_Reader___init__ := fun _ _ _ _ _ _ us hl => match us, hl with | [_], _ => rfl
def d_Reader_has_sort : Df := ⟨"has_sort", ["self", "sort"], ["self", "sort", "other", "rate"], "Reader.has_sort", defArgs (inClass (top 42) 1), defBody (inClass (top 42) 1), defScope (inClass (top 42) 1), some "Reader"⟩
theorem b_Reader_has_sort : Bnd d_Reader_has_sort := fun _ _ _ _ _ _ us hl => match us, hl with | [_, _], _ => rfl
def d_Reader_take_rate : Df := ⟨"take_rate", ["self", "row"], ["self", "row", "rate"], "Reader.take_rate", defArgs (inClass (top 42) 2), defBody (inClass (top 42) 2), defScope (inClass (top 42) 2), some "Reader"⟩
theorem b_Reader_take_rate : Bnd d_Reader_take_rate := fun _ _ _ _ _ _ us hl => match us, hl with | [_, _], _ => rfl
def d_Reader_take_base : Df := ⟨"take_base", ["self", "row"], ["self", "row", "word", "blank", "sort"], "Reader.take_base", defArgs (inClass (top 42) 3), defBody (inClass (top 42) 3), defScope (inClass (top 42) 3), some "Reader"⟩
theorem b_Reader_take_base : Bnd d_Reader_take_base := fun _ _ _ _ _ _ us hl => match us, hl with | [_, _], _ => rfl
def d_Reader_take_rule : Df := ⟨"take_rule", ["self", "row"], ["self", "row", "rule", "other"], "Reader.take_rule", defArgs (inClass (top 42) 4), defBody (inClass (top 42) 4), defScope (inClass (top 42) 4), some "Reader"⟩
theorem b_Reader_take_rule : Bnd d_Reader_take_rule := fun _ _ _ _ _ _ us hl => match us, hl with | [_, _], _ => rfl
def d_Reader_take : Df := ⟨"take", ["self", "row"], ["self", "row"], "Reader.take", defArgs (inClass (top 42) 5), defBody (inClass (top 42) 5), defScope (inClass (top 42) 5), some "Reader"⟩
theorem b_Reader_take : Bnd d_Reader_take := fun _ _ _ _ _ _ us hl => match us, hl with | [_, _], _ => rfl
def d_read_book : Df := ⟨"read_book", ["thing"], ["thing", "reader", "rows", "at", "row"], "read_book", defArgs (top 43), defBody (top 43), defScope (top 43), none⟩
theorem b_read_book : Bnd d_read_book := fun _ _ _ _ _ _ us hl => match us, hl with | [_], _ => rfl
def d__law_tape : Df := ⟨"_law_tape", ["script"], ["script"], "_law_tape", defArgs (top 45), defBody (top 45), defScope (top 45), none⟩
theorem b__law_tape : Bnd d__law_tape := fun _ _ _ _ _ _ us hl => match us, hl with | [_], _ => rfl
def d__law_draw : Df := ⟨"_law_draw", ["tape", "many"], ["tape", "many", "turn", "cell", "primes", "prime", "mixed", "digit"], "_law_draw", defArgs (top 46), defBody (top 46), defScope (top 46), none⟩
theorem b__law_draw : Bnd d__law_draw := fun _ _ _ _ _ _ us hl => match us, hl with | [_, _], _ => rfl
def d__law_pick : Df := ⟨"_law_pick", ["tape", "some"], ["tape", "some"], "_law_pick", defArgs (top 47), defBody (top 47), defScope (top 47), none⟩
theorem b__law_pick : Bnd d__law_pick := fun _ _ _ _ _ _ us hl => match us, hl with | [_, _], _ => rfl
def d__law_names : Df := ⟨"_law_names", ["tape"], ["tape", "letters", "turn", "base", "step", "ends", "words", "at", "first", "k"], "_law_names", defArgs (top 48), defBody (top 48), defScope (top 48), none⟩
theorem b__law_names : Bnd d__law_names := fun _ _ _ _ _ _ us hl => match us, hl with | [_], _ => rfl
def d__law_pools : Df := ⟨"_law_pools", ["tape", "many"], ["tape", "many", "clocks", "days", "weeks", "k"], "_law_pools", defArgs (top 49), defBody (top 49), defScope (top 49), none⟩
theorem b__law_pools : Bnd d__law_pools := fun _ _ _ _ _ _ us hl => match us, hl with | [_, _], _ => rfl
def d__law_condition : Df := ⟨"_law_condition", ["tape", "pools", "word"], ["tape", "pools", "word", "bits", "a", "b", "k"], "_law_condition", defArgs (top 50), defBody (top 50), defScope (top 50), none⟩
theorem b__law_condition : Bnd d__law_condition := fun _ _ _ _ _ _ us hl => match us, hl with | [_, _, _], _ => rfl
def d__law_rules : Df := ⟨"_law_rules", ["tape", "pools", "names", "sorts", "most"], ["tape", "pools", "names", "sorts", "most", "k", "kind", "some", "words", "own", "rank", "turn", "often", "word"], "_law_rules", defArgs (top 51), defBody (top 51), defScope (top 51), none⟩
theorem b__law_rules : Bnd d__law_rules := fun _ _ _ _ _ _ us hl => match us, hl with | [_, _, _, _, _], _ => rfl
def d__law_book : Df := ⟨"_law_book", ["tape", "pools", "most"], ["tape", "pools", "most", "names", "sorts", "coins", "sort"], "_law_book", defArgs (top 52), defBody (top 52), defScope (top 52), none⟩
theorem b__law_book : Bnd d__law_book := fun _ _ _ _ _ _ us hl => match us, hl with | [_, _, _], _ => rfl
def d__law_wide : Df := ⟨"_law_wide", ["tape"], ["tape", "pools", "sorts", "more", "few", "extra", "base", "rates", "rules", "name", "sort", "coins"], "_law_wide", defArgs (top 53), defBody (top 53), defScope (top 53), none⟩
theorem b__law_wide : Bnd d__law_wide := fun _ _ _ _ _ _ us hl => match us, hl with | [_], _ => rfl
def d__law_clock : Df := ⟨"_law_clock", ["clock"], ["clock"], "_law_clock", defArgs (top 54), defBody (top 54), defScope (top 54), none⟩
theorem b__law_clock : Bnd d__law_clock := fun _ _ _ _ _ _ us hl => match us, hl with | [_], _ => rfl
def d__law_words : Df := ⟨"_law_words", ["one"], ["one", "part", "day"], "_law_words", defArgs (top 55), defBody (top 55), defScope (top 55), none⟩
theorem b__law_words : Bnd d__law_words := fun _ _ _ _ _ _ us hl => match us, hl with | [_], _ => rfl
def d__law_text : Df := ⟨"_law_text", ["book"], ["book", "rows", "base", "rates", "rules", "name", "rank", "sort", "some", "words", "one", "coins"], "_law_text", defArgs (top 56), defBody (top 56), defScope (top 56), none⟩
theorem b__law_text : Bnd d__law_text := fun _ _ _ _ _ _ us hl => match us, hl with | [_], _ => rfl
def d_law : Df := ⟨"law", ["script"], ["script", "tape", "books", "sort", "book", "text", "k", "found"], "law", defArgs (top 57), defBody (top 57), defScope (top 57), none⟩
theorem b_law : Bnd d_law := fun _ _ _ _ _ _ us hl => match us, hl with | [_], _ => rfl
def P_fnn : List Str := (["is_whole", "two_figures", "show_clock", "are_figures", "read_clock", "is_name", "are_rising", "are_weekdays", "is_condition", "is_rule", "is_rate", "are_rates", "are_rules", "is_book", "rows_of"] : List (Str)) ++ (["number_in", "condition_words", "rule_row", "show_book", "condition_by", "conditions_by", "rule_by", "rate_by", "__init__", "has_sort", "take_rate", "take_base", "take_rule", "take", "read_book"] : List (Str)) ++ (["_law_tape", "_law_draw", "_law_pick", "_law_names", "_law_pools", "_law_condition", "_law_rules", "_law_book", "_law_wide", "_law_clock", "_law_words", "_law_text", "law"] : List (Str))
def P_fns : List Fn := ([f_is_whole, f_two_figures, f_show_clock, f_are_figures, f_read_clock, f_is_name, f_are_rising, f_are_weekdays, f_is_condition, f_is_rule, f_is_rate, f_are_rates, f_are_rules, f_is_book, f_rows_of] : List (Fn)) ++ ([f_number_in, f_condition_words, f_rule_row, f_show_book, f_condition_by, f_conditions_by, f_rule_by, f_rate_by, f_Reader___init__, f_Reader_has_sort, f_Reader_take_rate, f_Reader_take_base, f_Reader_take_rule, f_Reader_take, f_read_book] : List (Fn)) ++ ([f__law_tape, f__law_draw, f__law_pick, f__law_names, f__law_pools, f__law_condition, f__law_rules, f__law_book, f__law_wide, f__law_clock, f__law_words, f__law_text, f_law] : List (Fn))
def P_mts : List (Option (Nat × Str)) := ([none, none, none, none, none, none, none, none, none, none, none, none, none, none, none] : List (Option (Nat × Str))) ++ ([none, none, none, none, none, none, none, none, some (0, "__init__"), some (0, "has_sort"), some (0, "take_rate"), some (0, "take_base"), some (0, "take_rule"), some (0, "take"), none] : List (Option (Nat × Str))) ++ ([none, none, none, none, none, none, none, none, none, none, none, none, none] : List (Option (Nat × Str)))
def P : Pg := ⟨["FIGURES_times", "MOST_LETTERS", "LETTERS", "DAY", "MOST_RANK", "MOST_RATE_books", "MOST_RULES_books", "FIGURES_texts", "MOST_RATE_texts", "MOST_RULES_texts"], [.str "0123456789", .int 8, .str "abcdefghijklmnopqrstuvwxyz", .int 1440, .int 99, .int 1000000, .int 8, .str "0123456789", .int 1000000, .int 8], P_fnn, P_fns, [("Reader", ["base", "rates", "rules"])], P_mts, [("COUNTS", [("day", 1440), ("week", 10080)]), ("LENGTHS", [("clock", 3), ("days", 2), ("feast", 1), ("day", 2), ("week", 2)])]⟩
def ds : List Df := ([d_is_whole, d_two_figures, d_show_clock, d_are_figures, d_read_clock, d_is_name, d_are_rising, d_are_weekdays, d_is_condition, d_is_rule, d_is_rate, d_are_rates, d_are_rules, d_is_book, d_rows_of] : List (Df)) ++ ([d_number_in, d_condition_words, d_rule_row, d_show_book, d_condition_by, d_conditions_by, d_rule_by, d_rate_by, d_Reader___init__, d_Reader_has_sort, d_Reader_take_rate, d_Reader_take_base, d_Reader_take_rule, d_Reader_take, d_read_book] : List (Df)) ++ ([d__law_tape, d__law_draw, d__law_pick, d__law_names, d__law_pools, d__law_condition, d__law_rules, d__law_book, d__law_wide, d__law_clock, d__law_words, d__law_text, d_law] : List (Df))
theorem bnds : ∀ d ∈ ds, Bnd d := by
  intro d hd
  simp only [ds, List.mem_append, List.mem_cons, List.not_mem_nil, or_false, or_assoc] at hd
  rcases hd with rfl | rfl | rfl | rfl | rfl | rfl | rfl | rfl | rfl | rfl | rfl | rfl | rfl | rfl | rfl | rfl | rfl | rfl | rfl | rfl | rfl | rfl | rfl | rfl | rfl | rfl | rfl | rfl | rfl | rfl | rfl | rfl | rfl | rfl | rfl | rfl | rfl | rfl | rfl | rfl | rfl | rfl | rfl
  · exact b_is_whole
  · exact b_two_figures
  · exact b_show_clock
  · exact b_are_figures
  · exact b_read_clock
  · exact b_is_name
  · exact b_are_rising
  · exact b_are_weekdays
  · exact b_is_condition
  · exact b_is_rule
  · exact b_is_rate
  · exact b_are_rates
  · exact b_are_rules
  · exact b_is_book
  · exact b_rows_of
  · exact b_number_in
  · exact b_condition_words
  · exact b_rule_row
  · exact b_show_book
  · exact b_condition_by
  · exact b_conditions_by
  · exact b_rule_by
  · exact b_rate_by
  · exact b_Reader___init__
  · exact b_Reader_has_sort
  · exact b_Reader_take_rate
  · exact b_Reader_take_base
  · exact b_Reader_take_rule
  · exact b_Reader_take
  · exact b_read_book
  · exact b__law_tape
  · exact b__law_draw
  · exact b__law_pick
  · exact b__law_names
  · exact b__law_pools
  · exact b__law_condition
  · exact b__law_rules
  · exact b__law_book
  · exact b__law_wide
  · exact b__law_clock
  · exact b__law_words
  · exact b__law_text
  · exact b_law
theorem ok_is_whole : d_is_whole.ok P f_is_whole = true := by kernel_rfl
theorem ok_two_figures : d_two_figures.ok P f_two_figures = true := by kernel_rfl
theorem ok_show_clock : d_show_clock.ok P f_show_clock = true := by kernel_rfl
theorem ok_are_figures : d_are_figures.ok P f_are_figures = true := by kernel_rfl
theorem ok_read_clock : d_read_clock.ok P f_read_clock = true := by kernel_rfl
theorem ok_is_name : d_is_name.ok P f_is_name = true := by kernel_rfl
theorem ok_are_rising : d_are_rising.ok P f_are_rising = true := by kernel_rfl
theorem ok_are_weekdays : d_are_weekdays.ok P f_are_weekdays = true := by kernel_rfl
theorem ok_is_condition : d_is_condition.ok P f_is_condition = true := by kernel_rfl
theorem ok_is_rule : d_is_rule.ok P f_is_rule = true := by kernel_rfl
theorem ok_is_rate : d_is_rate.ok P f_is_rate = true := by kernel_rfl
theorem ok_are_rates : d_are_rates.ok P f_are_rates = true := by kernel_rfl
theorem ok_are_rules : d_are_rules.ok P f_are_rules = true := by kernel_rfl
theorem ok_is_book : d_is_book.ok P f_is_book = true := by kernel_rfl
theorem ok_rows_of : d_rows_of.ok P f_rows_of = true := by kernel_rfl
theorem ok_number_in : d_number_in.ok P f_number_in = true := by kernel_rfl
theorem ok_condition_words : d_condition_words.ok P f_condition_words = true := by kernel_rfl
theorem ok_rule_row : d_rule_row.ok P f_rule_row = true := by kernel_rfl
theorem ok_show_book : d_show_book.ok P f_show_book = true := by kernel_rfl
theorem ok_condition_by : d_condition_by.ok P f_condition_by = true := by kernel_rfl
theorem ok_conditions_by : d_conditions_by.ok P f_conditions_by = true := by kernel_rfl
theorem ok_rule_by : d_rule_by.ok P f_rule_by = true := by kernel_rfl
theorem ok_rate_by : d_rate_by.ok P f_rate_by = true := by kernel_rfl
theorem ok_Reader___init__ : d_Reader___init__.ok P f_Reader___init__ = true := by kernel_rfl
theorem ok_Reader_has_sort : d_Reader_has_sort.ok P f_Reader_has_sort = true := by kernel_rfl
theorem ok_Reader_take_rate : d_Reader_take_rate.ok P f_Reader_take_rate = true := by kernel_rfl
theorem ok_Reader_take_base : d_Reader_take_base.ok P f_Reader_take_base = true := by kernel_rfl
theorem ok_Reader_take_rule : d_Reader_take_rule.ok P f_Reader_take_rule = true := by kernel_rfl
theorem ok_Reader_take : d_Reader_take.ok P f_Reader_take = true := by kernel_rfl
theorem ok_read_book : d_read_book.ok P f_read_book = true := by kernel_rfl
theorem ok__law_tape : d__law_tape.ok P f__law_tape = true := by kernel_rfl
theorem ok__law_draw : d__law_draw.ok P f__law_draw = true := by kernel_rfl
theorem ok__law_pick : d__law_pick.ok P f__law_pick = true := by kernel_rfl
theorem ok__law_names : d__law_names.ok P f__law_names = true := by kernel_rfl
theorem ok__law_pools : d__law_pools.ok P f__law_pools = true := by kernel_rfl
theorem ok__law_condition : d__law_condition.ok P f__law_condition = true := by kernel_rfl
theorem ok__law_rules : d__law_rules.ok P f__law_rules = true := by kernel_rfl
theorem ok__law_book : d__law_book.ok P f__law_book = true := by kernel_rfl
theorem ok__law_wide : d__law_wide.ok P f__law_wide = true := by kernel_rfl
theorem ok__law_clock : d__law_clock.ok P f__law_clock = true := by kernel_rfl
theorem ok__law_words : d__law_words.ok P f__law_words = true := by kernel_rfl
theorem ok__law_text : d__law_text.ok P f__law_text = true := by kernel_rfl
theorem ok_law : d_law.ok P f_law = true := by kernel_rfl
theorem ok : allOk P ds = true := by kernel_rfl
end VP59

set_option Elab.async false
set_option linter.all false
set_option maxRecDepth 100000
set_option maxHeartbeats 0
/-! the head with the facts, the end -/
namespace VP59
open PySem PySem.Spec PyProof.Rows L2 VE
def n0 : List PySem.Str := ["HourError", "NoText", "DAY", "WEEK", "FIGURES_times", "is_whole", "two_figures", "show_clock", "are_figures", "read_clock", "LETTERS", "MOST_LETTERS", "MOST_RANK", "MOST_RATE_books", "MOST_RULES_books", "COUNTS", "is_name", "are_rising", "are_weekdays", "is_condition"]
def n1 : List PySem.Str := ["is_rule", "is_rate", "are_rates", "are_rules", "is_book", "FIGURES_texts", "MOST_RATE_texts", "MOST_RULES_texts", "LENGTHS", "rows_of", "number_in", "condition_words", "rule_row", "show_book", "condition_by", "conditions_by", "rule_by", "rate_by", "Reader", "read_book"]
def n2 : List PySem.Str := ["_law_tape", "_law_draw", "_law_pick", "_law_names", "_law_pools", "_law_condition", "_law_rules", "_law_book", "_law_wide", "_law_clock", "_law_words", "_law_text"]
def loose : List PySem.Str := n0 ++ n1 ++ n2
abbrev hk : PySem.W.Hook := He.hookX 4 (faOf P ds) (ds.map Df.toD) (tabsOf P) [] (exOf P)
def ob (s : PySem.W.SharedT) : He.AlX := He.obsX 4 (faOf P ds) (ds.map Df.toD) (tabsOf P) [] (exOf P) (HandSHeadRun.getT s)
theorem ob_eq (s : PySem.W.SharedT) : ob s = hk.obs s.abs := He.obsX_eq (HandSHeadRun.getT_eq s)
theorem headF (w : World) : HandSHeadRun.RunEq R (PySem.W.view R.prog [57]) hk ob 3000 loose (w.withFollow "special-get-raises" false) := by
  intro os
  kernel_rfl
theorem headT (w : World) : HandSHeadRun.RunEq R (PySem.W.view R.prog [57]) hk ob 3000 loose (w.withFollow "special-get-raises" true) := by
  intro os
  kernel_rfl
theorem head (w : World) : HandSHeadRun.RunEq R (PySem.W.view R.prog [57]) hk ob 3000 loose w := PySem.W.byRow2 "special-get-raises" (P := fun w => HandSHeadRun.RunEq R (PySem.W.view R.prog [57]) hk ob 3000 loose w) headF headT w
theorem fin (hrun : ∀ ns : List Int, ns.length ≤ 63 → ∃ S, run P.prog 20 42 [.fz (ns.map .int)] [] = .ok (.bl true) S) : PySem.Challenge.rw_hourcoin_k59_whole_books_read_back.Holds := by
  w_on; o_law
  refine HandSHeadRun.head_any (r := R) (q := PySem.W.view R.prog [57]) (H := hk) (ob := ob) (M := 3000) (loose := loose) (d := HandSHeadRun.topDef R.prog 57) (kwd := []) ob_eq
    (by kernel_rfl) (fun s => by kernel_rfl) head (by kernel_rfl) (by kernel_rfl) (by kernel_rfl) (by rfl) (by first | assumption | decide +kernel) (by decide +kernel) ⟨rfl, rfl, rfl, rfl, rfl, by decide +kernel⟩ ?hw ?hc
  case hw => w_witness2
  case hc =>
    refine walk_G (l := PySem.Challenge.rw_hourcoin_k59_whole_books_read_back) (n := 63) (k := 40) (x := "script") rfl (by decide) (by kernel_rfl) ⟨rfl, by decide, by decide⟩ ?F
    intro w mg fa h Y G hmg
    obtain ⟨K, KX, c⟩ := Y
    have nm : (HandSHeadRun.topDef R.prog 57).name = d_law.x := by kernel_rfl
    rw [nm] at hmg
    obtain ⟨fd, sp, q1, q2, q3⟩ := law_fin (P := (PySem.Challenge.rw_hourcoin_k59_whole_books_read_back).prog) (w := w) (x := "script") KX G c ok bnds (d := d_law) (li := 42) (by kernel_rfl) rfl rfl hmg hrun
    exact ⟨L2.CX (PySem.Challenge.rw_hourcoin_k59_whole_books_read_back).prog w, K, fd, sp, KX, fun H s e s' => cx_end, q1, q2, q3⟩
end VP59

set_option Elab.async false
set_option linter.all false
set_option maxRecDepth 100000
set_option maxHeartbeats 4000000
/-! VL, part 1: the calculus of the evaluator, in plain Lean; the draw. -/
namespace VE
open PySem PySem.Spec PyProof.Rows L2

def Wr {α : Type} (r : Res α) (Q : α → Sto → Prop) : Prop := match r with
  | .ok a S => Q a S
  | _ => False
def Wo (o : Out) (N : Env → Sto → Prop) (R : D → Sto → Prop) : Prop := match o with
  | .nx e S => N e S
  | .rt d S => R d S
  | _ => False
section
variable {α β : Type} {Q Q' : α → Sto → Prop} {N N' : Env → Sto → Prop} {R R' : D → Sto → Prop}
theorem wr_ok (a : α) (S : Sto) : Wr (.ok a S) Q = Q a S := rfl
theorem wr_bind (r : Res α) (f : α → Sto → Res β) (Q : β → Sto → Prop) : Wr (r.bind f) Q = Wr r fun a S => Wr (f a S) Q := by cases r <;> rfl
theorem wr_lift (o : Option α) (S : Sto) : Wr (lift o S) Q = (∃ a, o = some a ∧ Q a S) := by
  cases o with
  | none => simp [lift, Wr]
  | some a => simp [lift, Wr]
theorem wr_noexc (r : Res α) : Wr r.noexc Q = Wr r Q := by cases r <;> rfl
theorem wr_ite (c : Prop) [Decidable c] (a b : Res α) : Wr (if c then a else b) Q = if c then Wr a Q else Wr b Q := by split <;> rfl
theorem wr_mono {r : Res α} (h : Wr r Q) (i : ∀ a S, Q a S → Q' a S) : Wr r Q' := by
  cases r with
  | ok a S => exact i a S h
  | exc x S => exact h
  | err => exact h
theorem wr_get {r : Res α} (h : Wr r Q) : ∃ a S, r = .ok a S ∧ Q a S := by
  cases r with
  | ok a S => exact ⟨a, S, rfl, h⟩
  | exc x S => exact h.elim
  | err => exact h.elim
theorem wo_nx (e : Env) (S : Sto) : Wo (.nx e S) N R = N e S := rfl
theorem wo_rt (d : D) (S : Sto) : Wo (.rt d S) N R = R d S := rfl
theorem wo_outs (r : Res α) (env : Env) (f : α → Sto → Out) : Wo (r.outs env f) N R = Wr r fun a S => Wo (f a S) N R := by cases r <;> rfl
theorem wo_then (o : Out) (f : Env → Sto → Out) : Wo (o.andThen f) N R = Wo o (fun e S => Wo (f e S) N R) R := by cases o <;> rfl
theorem wo_ite (c : Prop) [Decidable c] (a b : Out) : Wo (if c then a else b) N R = if c then Wo a N R else Wo b N R := by split <;> rfl
theorem wo_mono {o : Out} (h : Wo o N R) (i : ∀ e S, N e S → N' e S) (j : ∀ d S, R d S → R' d S) : Wo o N' R' := by
  cases o with
  | nx e S => exact i e S h
  | rt d S => exact j d S h
  | exc x e S => exact h
  | err => exact h
theorem wr_end (o : Out) {Q : D → Sto → Prop} : Wr (endRun o) Q = Wo o (fun _ S => Q .non S) Q := by cases o <;> rfl
theorem wr_run {P : Prog} {n f : Nat} {F : Fn} {ds : List D} {S : Sto} {Q : D → Sto → Prop} (hf : P.fns[f]? = some F) (hl : ds.length = F.np)
    (h : Wo (evSs P.gl (run P n) F.body (startE F.nl ds) S) (fun _ S => Q .non S) Q) : Wr (run P (n + 1) f ds S) Q := by
  have e : run P (n + 1) f ds S = endRun (evSs P.gl (run P n) F.body (startE F.nl ds) S) := by
    show (match P.fns[f]? with
      | some F => if ds.length = F.np then endRun (evSs P.gl (run P n) F.body (startE F.nl ds) S) else Res.err
      | none => Res.err) = _
    rw [hf]
    exact if_pos hl
  rw [e, wr_end]
  exact h
/-- a comprehension without tests -/
theorem wr_map {f : D → Sto → Res (Option D)} {I : Nat → Sto → Prop} {P : Nat → D → D → Prop} : ∀ {ds : List D} {k : Nat} {S : Sto} {Q : List D → Sto → Prop}, I k S →
    (∀ i d S, ds[i]? = some d → I (k + i) S → Wr (f d S) fun o S => I (k + i + 1) S ∧ ∃ y, o = some y ∧ P i d y) →
    (∀ r S, I (k + ds.length) S → r.length = ds.length → (∀ i d y, ds[i]? = some d → r[i]? = some y → P i d y) → Q r S) → Wr (compL f ds S) Q
  | [], k, S, Q, h0, _, hq => hq [] S h0 rfl fun i d y h => by simp at h
  | d :: ds, k, S, Q, h0, hf, hq => by
    unfold compL
    rw [wr_bind]
    refine wr_mono (hf 0 d S rfl h0) fun o S1 ⟨h1, y, e, hp⟩ => ?_
    subst e
    rw [wr_bind]
    refine wr_map (I := I) (P := fun i => P (i + 1)) (k := k + 1) (by simpa using h1) (fun i d' S hd hi => ?_) fun r S2 hi hl hr => ?_
    · have e : k + 1 + i = k + (i + 1) := by omega
      rw [e] at hi
      have := hf (i + 1) d' S (by simpa using hd) hi
      rw [e]
      exact this
    · rw [wr_ok]
      refine hq (y :: r) S2 ?_ (by simp [hl]) fun i d' y' h1 h2 => ?_
      · rw [List.length_cons]
        have e : k + 1 + ds.length = k + (ds.length + 1) := by omega
        rw [e] at hi
        exact hi
      · cases i with
        | zero =>
          cases h1
          cases h2
          exact hp
        | succ i => exact hr i d' y' (by simpa using h1) (by simpa using h2)
/-- a comprehension with a test -/
theorem wr_filter {f : D → Sto → Res (Option D)} {I : Nat → Sto → Prop} {P : D → Prop} : ∀ {ds : List D} {k : Nat} {S : Sto} {Q : List D → Sto → Prop}, I k S →
    (∀ i d S, ds[i]? = some d → I (k + i) S → Wr (f d S) fun o S => I (k + i + 1) S ∧ ∀ y, o = some y → P y) →
    (∀ r S, I (k + ds.length) S → r.length ≤ ds.length → (∀ y ∈ r, P y) → Q r S) → Wr (compL f ds S) Q
  | [], k, S, Q, h0, _, hq => hq [] S h0 (Nat.le_refl _) fun y h => nomatch h
  | d :: ds, k, S, Q, h0, hf, hq => by
    unfold compL
    rw [wr_bind]
    refine wr_mono (hf 0 d S rfl h0) fun o S1 ⟨h1, hp⟩ => ?_
    rw [wr_bind]
    refine wr_filter (I := I) (P := P) (k := k + 1) (by simpa using h1) (fun i d' S hd hi => ?_) fun r S2 hi hl hr => ?_
    · have e : k + 1 + i = k + (i + 1) := by omega
      rw [e] at hi
      have := hf (i + 1) d' S (by simpa using hd) hi
      rw [e]
      exact this
    · rw [wr_ok]
      have hi' : I (k + (d :: ds).length) S2 := by
        rw [List.length_cons]
        have e : k + 1 + ds.length = k + (ds.length + 1) := by omega
        rw [e] at hi
        exact hi
      cases o with
      | none => exact hq r S2 hi' (Nat.le_succ_of_le hl) hr
      | some y =>
        refine hq (y :: r) S2 hi' (Nat.succ_le_succ hl) fun z hz => ?_
        rcases List.mem_cons.mp hz with e | hz
        · rw [e]
          exact hp y rfl
        · exact hr z hz
/-- a loop -/
theorem wo_for {f : D → Env → Sto → Out} {I : Nat → Env → Sto → Prop} : ∀ {ds : List D} {k : Nat} {env : Env} {S : Sto}, I k env S →
    (∀ i d env S, ds[i]? = some d → I (k + i) env S → Wo (f d env S) (fun env S => I (k + i + 1) env S) R) → (∀ env S, I (k + ds.length) env S → N env S) → Wo (forL f ds env S) N R
  | [], k, env, S, h0, _, hq => hq env S h0
  | d :: ds, k, env, S, h0, hf, hq => by
    unfold forL
    rw [wo_then]
    refine wo_mono (hf 0 d env S rfl h0) (fun e S1 h1 => ?_) fun _ _ z => z
    refine wo_for (I := I) (k := k + 1) (by simpa using h1) (fun i d' env S hd hi => ?_) fun env S hi => ?_
    · have e : k + 1 + i = k + (i + 1) := by omega
      rw [e] at hi
      have := hf (i + 1) d' env S (by simpa using hd) hi
      rw [e]
      exact this
    · refine hq env S ?_
      rw [List.length_cons]
      have e : k + 1 + ds.length = k + (ds.length + 1) := by omega
      rw [e] at hi
      exact hi
end
theorem tg_n (i : Nat) (d : D) (env : Env) : Tg.set (.n i) d env = some (env.set i (some d)) := rfl
theorem tg_t2 (a b : Tg) (x y : D) (env : Env) : Tg.set (.t [a, b]) (.tup [x, y]) env = (Tg.set a x env).bind fun e => Tg.set b y e := by
  show Tg.sets [a, b] [x, y] env = _
  unfold Tg.sets
  cases Tg.set a x env with
  | none => rfl
  | some e =>
    unfold Tg.sets
    dsimp only [Option.bind_some]
    cases Tg.set b y e <;> rfl
theorem tg_t3 (a b c : Tg) (x y z : D) (env : Env) : Tg.set (.t [a, b, c]) (.tup [x, y, z]) env = (Tg.set a x env).bind fun e => (Tg.set b y e).bind fun e => Tg.set c z e := by
  show Tg.sets [a, b, c] [x, y, z] env = _
  unfold Tg.sets
  cases Tg.set a x env with
  | none => rfl
  | some e =>
    have := tg_t2 b c y z e
    exact this
theorem tg_t4 (a b c d : Tg) (x y z w : D) (env : Env) : Tg.set (.t [a, b, c, d]) (.tup [x, y, z, w]) env = (Tg.set a x env).bind fun e => (Tg.set b y e).bind fun e => (Tg.set c z e).bind fun e => Tg.set d w e := by
  show Tg.sets [a, b, c, d] [x, y, z, w] env = _
  unfold Tg.sets
  cases Tg.set a x env with
  | none => rfl
  | some e =>
    have := tg_t3 b c d y z w e
    exact this
/-! ### plain data -/
theorem pds_ints : ∀ ns : List Int, D.pds (ns.map D.int) = some (ns.map PyData.int)
  | [] => rfl
  | n :: ns => by
    simp only [List.map_cons, D.pds, D.pd, pds_ints ns]
/-! ### the tape -/
def Tp (cells : List Int) (t l : Int) : Sto := [.box (.lst [.lst (cells.map .int), .int t, .int l])]
def StB (cells : List Int) (b : Int) (S : Sto) : Prop := ∃ t l, 0 ≤ t ∧ t ≤ b ∧ S = Tp cells t l
theorem StB.up {cells : List Int} {b c : Int} {S : Sto} (h : StB cells b S) (i : b ≤ c) : StB cells c S := by
  obtain ⟨t, l, h1, h2, h3⟩ := h
  exact ⟨t, l, h1, by omega, h3⟩
def drawF : Fn := ⟨2, 8, true, [
  .iff (.cmp .gt (.ix (.v 0) (.int 2)) (.int 0)) [.asg 7 (.bin .mod (.ix (.v 0) (.int 2)) (.v 1)), .bset (.v 0) (.int 2) (.bin .fdiv (.ix (.v 0) (.int 2)) (.v 1)), .ret (.v 7)] [],
  .asg 2 (.ix (.v 0) (.int 1)),
  .bset (.v 0) (.int 1) (.bin .add (.v 2) (.int 1)),
  .asg 3 (.int 0),
  .iff (.cmp .ne (.ix (.v 0) (.int 0)) (.lst [])) [.asg 3 (.ix (.ix (.v 0) (.int 0)) (.bin .mod (.v 2) (.bi .len [.ix (.v 0) (.int 0)])))] [],
  .iff (.an [.cmp .ge (.v 3) (.bin .pow (.int 10) (.int 18)), .cmp .lt (.v 2) (.bi .len [.ix (.v 0) (.int 0)])]) [.bset (.v 0) (.int 2) (.bin .fdiv (.bin .sub (.v 3) (.bin .pow (.int 10) (.int 18))) (.v 1)), .ret (.bin .mod (.bin .sub (.v 3) (.bin .pow (.int 10) (.int 18))) (.v 1))] [],
  .asg 4 (.lst [.int 2147483647, .int 2147483629, .int 2147483587, .int 2147483579, .int 2147483563]),
  .asg 5 (.ix (.v 4) (.bin .mod (.v 2) (.int 5))),
  .asg 6 (.bin .mod (.bin .add (.bin .add (.bin .add (.bin .mul (.bin .mod (.v 3) (.v 5)) (.int 48271)) (.bin .mul (.bin .mul (.int 7919) (.v 2)) (.v 2))) (.bin .mul (.int 69621) (.v 2))) (.int 1)) (.v 5)),
  .asg 6 (.bin .mod (.bin .mul (.v 6) (.bin .add (.v 6) (.int 16807))) (.ix (.v 4) (.bin .mod (.bin .add (.v 2) (.int 2)) (.int 5)))),
  .ret (.bin .mod (.bin .fdiv (.bin .mod (.bin .mul (.v 6) (.v 6)) (.int 2147483549)) (.int 64)) (.v 1))]⟩
/-- what is known of a draw -/
def DrawOk (rc : Nat → List D → Sto → Res D) (kd : Nat) (cells : List Int) : Prop := ∀ (b : Int) (S : Sto) (many : Int), StB cells b S → b ≤ 2 ^ 60 → 0 < many → many < 2 ^ 29 →
  Wr (rc kd [.obj 0, .int many] S) fun d S => ∃ r : Int, d = .int r ∧ 0 ≤ r ∧ r < many ∧ StB cells (b + 1) S
theorem ix_lst (xs : List D) (i : Int) : evIx (.lst xs) (.int i) = atI xs i := rfl
theorem atI_nat {α : Type} {xs : List α} {i : Int} {x : α} (h0 : 0 ≤ i) (h : xs[i.toNat]? = some x) : atI xs i = some x := by
  have lt := (List.getElem?_eq_some_iff.mp h).1
  unfold atI ixN
  rw [if_pos h0, if_pos (by omega)]
  exact h
theorem atI_in {α : Type} {xs : List α} {i : Int} (h0 : 0 ≤ i) (h : i < xs.length) : ∃ x, atI xs i = some x ∧ x ∈ xs := by
  have lt : i.toNat < xs.length := by omega
  exact ⟨xs[i.toNat], atI_nat h0 (List.getElem?_eq_getElem lt), List.getElem_mem lt⟩
theorem depth_ints (ns : List Int) : (PyData.list (ns.map PyData.int)).depth ≤ 2 := by
  have key : ∀ ns : List Int, PyData.depthAll (ns.map PyData.int) ≤ 1 := fun ns => by
    induction ns with
    | nil => simp [PyData.depthAll]
    | cons n ns ih =>
      simp only [List.map_cons, PyData.depthAll, PyData.depth]
      omega
  have := key ns
  simp only [PyData.depth]
  omega
theorem ne_nil (ns : List Int) : evCmp .ne (.lst (ns.map .int)) (.lst []) = some (!ns.isEmpty) := by
  show (evEq _ _).map (!·) = _
  unfold evEq
  have e1 : (D.lst (ns.map .int)).pd = some (.list (ns.map PyData.int)) := by
    simp only [D.pd, pds_ints]
    rfl
  have e2 : (D.lst []).pd = some (.list []) := rfl
  rw [e1, e2]
  have d1 := depth_ints ns
  have d2 : (PyData.list []).depth ≤ 64 := by decide
  dsimp only
  rw [if_pos ⟨by omega, d2⟩]
  cases ns <;> rfl
theorem wo_cons {gl : List D} {rc : Nat → List D → Sto → Res D} {s : VE.St} {r : List VE.St} {env : Env} {S : Sto} {N : Env → Sto → Prop} {R : D → Sto → Prop} :
    Wo (evSs gl rc (s :: r) env S) N R = Wo (evS gl rc s env S) (fun e S => Wo (evSs gl rc r e S) N R) R := by
  show Wo ((evS gl rc s env S).andThen fun e S => evSs gl rc r e S) N R = _
  rw [wo_then]
theorem wo_nil {gl : List D} {rc : Nat → List D → Sto → Res D} {env : Env} {S : Sto} {N : Env → Sto → Prop} {R : D → Sto → Prop} : Wo (evSs gl rc [] env S) N R = N env S := rfl
theorem wr_tru (b : Bool) (S : Sto) (Q : Bool → Sto → Prop) : Wr (tru (.bl b) S) Q = Q b S := rfl
theorem gt_int (i j : Int) : evCmp .gt (.int i) (.int j) = some (decide (j < i)) := rfl
theorem lt_int (i j : Int) : evCmp .lt (.int i) (.int j) = some (decide (i < j)) := rfl
theorem ge_int (i j : Int) : evCmp .ge (.int i) (.int j) = some (decide (j ≤ i)) := rfl
theorem le_int (i j : Int) : evCmp .le (.int i) (.int j) = some (decide (i ≤ j)) := rfl
theorem add_int (i j : Int) : evBin .add (.int i) (.int j) = some (.int (i + j)) := rfl
theorem sub_int (i j : Int) : evBin .sub (.int i) (.int j) = some (.int (i - j)) := rfl
theorem mod_int {i j : Int} (h : 0 < j) : evBin .mod (.int i) (.int j) = some (.int (i % j)) := if_pos h
theorem fdiv_int {i j : Int} (h : 0 < j) (h1 : j < 1073741824) : evBin .fdiv (.int i) (.int j) = some (.int (i / j)) := if_pos ⟨h, h1⟩
theorem mul_int {i j : Int} (h : CMul i j) : evBin .mul (.int i) (.int j) = some (.int (i * j)) := if_pos h
theorem len_lst (xs : List D) : evBi .len [.lst xs] = some (.int xs.length) := rfl
theorem pow_int {i j : Int} (h : 0 ≤ j ∧ j ≤ 1000000 ∧ i.natAbs < 2 ^ 64) : evBin .pow (.int i) (.int j) = some (.int (i ^ j.toNat)) := if_pos h
theorem someEx {α : Type} {a : α} {P : α → Prop} : (∃ x, some a = some x ∧ P x) = P a := by
  apply propext
  constructor
  · rintro ⟨x, e, h⟩
    cases e
    exact h
  · exact fun h => ⟨a, rfl, h⟩
theorem draw_body {gl : List D} {rc : Nat → List D → Sto → Res D} {cells : List Int} {b many : Int} {S : Sto} (h : StB cells b S) (hb : b ≤ 2 ^ 60) (h0 : 0 < many) (h1 : many < 2 ^ 29) {N : Env → Sto → Prop} :
    Wo (evSs gl rc drawF.body (startE drawF.nl [.obj 0, .int many]) S) N fun d S => ∃ r : Int, d = .int r ∧ 0 ≤ r ∧ r < many ∧ StB cells (b + 1) S := by
  obtain ⟨t, l, t0, t1, rfl⟩ := h
  have fin : ∀ x : Int, 0 ≤ x % many ∧ x % many < many := fun x => ⟨Int.emod_nonneg _ (by omega), Int.emod_lt_of_pos _ h0⟩
  have at2 : ∀ t l : Int, atI ([.lst (cells.map .int), .int t, .int l] : List D) 2 = some (.int l) := fun t l => rfl
  have at1 : ∀ t l : Int, atI ([.lst (cells.map .int), .int t, .int l] : List D) 1 = some (.int t) := fun t l => rfl
  have at0 : ∀ t l : Int, atI ([.lst (cells.map .int), .int t, .int l] : List D) 0 = some (.lst (cells.map .int)) := fun t l => rfl
  have e2 : ixN 3 2 = some 2 := rfl
  have e1 : ixN 3 1 = some 1 := rfl
  have md : ∀ x : Int, evBin .mod (.int x) (.int many) = some (.int (x % many)) := fun x => mod_int h0
  have fd : ∀ x : Int, evBin .fdiv (.int x) (.int many) = some (.int (x / many)) := fun x => fdiv_int h0 (by omega)
  have p18 : evBin .pow (.int 10) (.int 18) = some (.int 1000000000000000000) := by
    rw [pow_int (by decide)]
    rfl
  show Wo (evSs gl rc drawF.body [some (.obj 0), some (.int many), none, none, none, none, none, none] (Tp cells t l)) N _
  unfold drawF
  dsimp only
  rw [wo_cons]
  simp only [evS, evE, evEs, evAn, evOr, wo_outs, wo_nx, wo_rt, wr_bind, wr_ok, wo_ite, wr_ite, wr_lift, wr_tru, someEx, List.length_cons, List.length_nil, List.getElem?_cons_zero, List.getElem?_cons_succ, List.set_cons_zero, List.set_cons_succ, ix_lst, Nat.zero_add, Nat.reduceAdd, slB, isNon, D.isStr, if_true, evSl, evCs, tg_n, tg_t2, tg_t3, tg_t4, Tg.slots, Tg.slotss, wipeE, wr_noexc, Option.map_some, Option.bind_some, reduceIte, Tp, at2, gt_int, md, fd, e2, lt_int]
  by_cases hl : 0 < l
  · rw [if_pos (by simpa using hl)]
    simp only [wo_cons, wo_nil, evS, evE, evEs, evAn, evOr, wo_outs, wo_nx, wo_rt, wr_bind, wr_ok, wo_ite, wr_ite, wr_lift, wr_tru, someEx, List.length_cons, List.length_nil, List.getElem?_cons_zero, List.getElem?_cons_succ, List.set_cons_zero, List.set_cons_succ, ix_lst, Nat.zero_add, Nat.reduceAdd, slB, isNon, D.isStr, if_true, evSl, evCs, tg_n, tg_t2, tg_t3, tg_t4, Tg.slots, Tg.slotss, wipeE, wr_noexc, Option.map_some, Option.bind_some, reduceIte, md, fd, e2, at2]
    exact ⟨_, rfl, (fin _).1, (fin _).2, t, _, t0, by omega, rfl⟩
  · rw [if_neg (by simpa using hl)]
    simp only [wo_nil]
    rw [wo_cons]
    simp only [evS, evE, evEs, evAn, evOr, wo_outs, wo_nx, wo_rt, wr_bind, wr_ok, wo_ite, wr_ite, wr_lift, wr_tru, someEx, List.length_cons, List.length_nil, List.getElem?_cons_zero, List.getElem?_cons_succ, List.set_cons_zero, List.set_cons_succ, ix_lst, Nat.zero_add, Nat.reduceAdd, slB, isNon, D.isStr, if_true, evSl, evCs, tg_n, tg_t2, tg_t3, tg_t4, Tg.slots, Tg.slotss, wipeE, wr_noexc, Option.map_some, Option.bind_some, reduceIte, at1]
    rw [wo_cons]
    simp only [evS, evE, evEs, evAn, evOr, wo_outs, wo_nx, wo_rt, wr_bind, wr_ok, wo_ite, wr_ite, wr_lift, wr_tru, someEx, List.length_cons, List.length_nil, List.getElem?_cons_zero, List.getElem?_cons_succ, List.set_cons_zero, List.set_cons_succ, ix_lst, Nat.zero_add, Nat.reduceAdd, slB, isNon, D.isStr, if_true, evSl, evCs, tg_n, tg_t2, tg_t3, tg_t4, Tg.slots, Tg.slotss, wipeE, wr_noexc, Option.map_some, Option.bind_some, reduceIte, add_int, e1]
    rw [wo_cons]
    simp only [evS, evE, evEs, evAn, evOr, wo_outs, wo_nx, wo_rt, wr_bind, wr_ok, wo_ite, wr_ite, wr_lift, wr_tru, someEx, List.length_cons, List.length_nil, List.getElem?_cons_zero, List.getElem?_cons_succ, List.set_cons_zero, List.set_cons_succ, ix_lst, Nat.zero_add, Nat.reduceAdd, slB, isNon, D.isStr, if_true, evSl, evCs, tg_n, tg_t2, tg_t3, tg_t4, Tg.slots, Tg.slotss, wipeE, wr_noexc, Option.map_some, Option.bind_some, reduceIte]
    rw [wo_cons]
    simp only [evS, evE, evEs, evAn, evOr, wo_outs, wo_nx, wo_rt, wr_bind, wr_ok, wo_ite, wr_ite, wr_lift, wr_tru, someEx, List.length_cons, List.length_nil, List.getElem?_cons_zero, List.getElem?_cons_succ, List.set_cons_zero, List.set_cons_succ, ix_lst, Nat.zero_add, Nat.reduceAdd, slB, isNon, D.isStr, if_true, evSl, evCs, tg_n, tg_t2, tg_t3, tg_t4, Tg.slots, Tg.slotss, wipeE, wr_noexc, Option.map_some, Option.bind_some, reduceIte, at0, ne_nil]
    -- the cell
    have rest : ∀ cell : Int, Wo (evSs gl rc [
        .iff (.an [.cmp .ge (.v 3) (.bin .pow (.int 10) (.int 18)), .cmp .lt (.v 2) (.bi .len [.ix (.v 0) (.int 0)])]) [.bset (.v 0) (.int 2) (.bin .fdiv (.bin .sub (.v 3) (.bin .pow (.int 10) (.int 18))) (.v 1)), .ret (.bin .mod (.bin .sub (.v 3) (.bin .pow (.int 10) (.int 18))) (.v 1))] [],
        .asg 4 (.lst [.int 2147483647, .int 2147483629, .int 2147483587, .int 2147483579, .int 2147483563]),
        .asg 5 (.ix (.v 4) (.bin .mod (.v 2) (.int 5))),
        .asg 6 (.bin .mod (.bin .add (.bin .add (.bin .add (.bin .mul (.bin .mod (.v 3) (.v 5)) (.int 48271)) (.bin .mul (.bin .mul (.int 7919) (.v 2)) (.v 2))) (.bin .mul (.int 69621) (.v 2))) (.int 1)) (.v 5)),
        .asg 6 (.bin .mod (.bin .mul (.v 6) (.bin .add (.v 6) (.int 16807))) (.ix (.v 4) (.bin .mod (.bin .add (.v 2) (.int 2)) (.int 5)))),
        .ret (.bin .mod (.bin .fdiv (.bin .mod (.bin .mul (.v 6) (.v 6)) (.int 2147483549)) (.int 64)) (.v 1))]
        [some (.obj 0), some (.int many), some (.int t), some (.int cell), none, none, none, none] (Tp cells (t + 1) l)) N fun d S => ∃ r : Int, d = .int r ∧ 0 ≤ r ∧ r < many ∧ StB cells (b + 1) S := fun cell => by
      rw [wo_cons]
      simp only [evS, evE, evEs, evAn, evOr, wo_outs, wo_nx, wo_rt, wr_bind, wr_ok, wo_ite, wr_ite, wr_lift, wr_tru, someEx, List.length_cons, List.length_nil, List.getElem?_cons_zero, List.getElem?_cons_succ, List.set_cons_zero, List.set_cons_succ, ix_lst, Nat.zero_add, Nat.reduceAdd, slB, isNon, D.isStr, if_true, evSl, evCs, tg_n, tg_t2, tg_t3, tg_t4, Tg.slots, Tg.slotss, wipeE, wr_noexc, Option.map_some, Option.bind_some, reduceIte, p18, ge_int]
      have tail : Wo (evSs gl rc [
        .asg 4 (.lst [.int 2147483647, .int 2147483629, .int 2147483587, .int 2147483579, .int 2147483563]),
        .asg 5 (.ix (.v 4) (.bin .mod (.v 2) (.int 5))),
        .asg 6 (.bin .mod (.bin .add (.bin .add (.bin .add (.bin .mul (.bin .mod (.v 3) (.v 5)) (.int 48271)) (.bin .mul (.bin .mul (.int 7919) (.v 2)) (.v 2))) (.bin .mul (.int 69621) (.v 2))) (.int 1)) (.v 5)),
        .asg 6 (.bin .mod (.bin .mul (.v 6) (.bin .add (.v 6) (.int 16807))) (.ix (.v 4) (.bin .mod (.bin .add (.v 2) (.int 2)) (.int 5)))),
        .ret (.bin .mod (.bin .fdiv (.bin .mod (.bin .mul (.v 6) (.v 6)) (.int 2147483549)) (.int 64)) (.v 1))]
        [some (.obj 0), some (.int many), some (.int t), some (.int cell), none, none, none, none] (Tp cells (t + 1) l)) N fun d S => ∃ r : Int, d = .int r ∧ 0 ≤ r ∧ r < many ∧ StB cells (b + 1) S := by
        have pr : ∀ i : Int, 0 ≤ i → i < 5 → ∃ q : Int, atI ([.int 2147483647, .int 2147483629, .int 2147483587, .int 2147483579, .int 2147483563] : List D) i = some (.int q) ∧ 0 < q ∧ q < 2147483648 := fun i i0 i1 => by
          obtain ⟨x, e, m⟩ := atI_in (xs := ([.int 2147483647, .int 2147483629, .int 2147483587, .int 2147483579, .int 2147483563] : List D)) i0 (by simpa using i1)
          rw [e]
          simp only [List.mem_cons, List.not_mem_nil, or_false] at m
          rcases m with rfl | rfl | rfl | rfl | rfl <;> exact ⟨_, rfl, by decide, by decide⟩
        have m5 : ∀ x : Int, 0 ≤ x % 5 ∧ x % 5 < 5 := fun x => ⟨Int.emod_nonneg _ (by decide), Int.emod_lt_of_pos _ (by decide)⟩
        obtain ⟨q, eq, q0, q1⟩ := pr (t % 5) (m5 t).1 (m5 t).2
        obtain ⟨q', eq', q0', q1'⟩ := pr ((t + 2) % 5) (m5 _).1 (m5 _).2
        have c1 : ∀ x : Int, CMul x 48271 := fun x => .inr (by decide)
        have c2 : ∀ x : Int, CMul 7919 x := fun x => .inl (by decide)
        have c3 : ∀ x : Int, CMul x t := fun x => .inr (by constructor <;> omega)
        have c4 : ∀ x : Int, CMul 69621 x := fun x => .inl (by decide)
        have mq : ∀ x : Int, evBin .mod (.int x) (.int q) = some (.int (x % q)) := fun x => mod_int q0
        have mq' : ∀ x : Int, evBin .mod (.int x) (.int q') = some (.int (x % q')) := fun x => mod_int q0'
        have m5' : ∀ x : Int, evBin .mod (.int x) (.int 5) = some (.int (x % 5)) := fun x => mod_int (by decide)
        have c5 : ∀ x y : Int, CMul (x % q) y := fun x y => .inl (by
          have a1 := Int.emod_nonneg x (b := q) (by omega)
          have a2 := Int.emod_lt_of_pos x q0
          constructor <;> omega)
        have c6 : ∀ x y : Int, CMul (x % q') y := fun x y => .inl (by
          have a1 := Int.emod_nonneg x (b := q') (by omega)
          have a2 := Int.emod_lt_of_pos x q0'
          constructor <;> omega)
        have mz : ∀ x : Int, evBin .mod (.int x) (.int 2147483549) = some (.int (x % 2147483549)) := fun x => mod_int (by decide)
        have f64 : ∀ x : Int, evBin .fdiv (.int x) (.int 64) = some (.int (x / 64)) := fun x => fdiv_int (by decide) (by decide)
        rw [wo_cons]
        simp only [evS, evE, evEs, evAn, evOr, wo_outs, wo_nx, wo_rt, wr_bind, wr_ok, wo_ite, wr_ite, wr_lift, wr_tru, someEx, List.length_cons, List.length_nil, List.getElem?_cons_zero, List.getElem?_cons_succ, List.set_cons_zero, List.set_cons_succ, ix_lst, Nat.zero_add, Nat.reduceAdd, slB, isNon, D.isStr, if_true, evSl, evCs, tg_n, tg_t2, tg_t3, tg_t4, Tg.slots, Tg.slotss, wipeE, wr_noexc, Option.map_some, Option.bind_some, reduceIte]
        rw [wo_cons]
        simp only [evS, evE, evEs, evAn, evOr, wo_outs, wo_nx, wo_rt, wr_bind, wr_ok, wo_ite, wr_ite, wr_lift, wr_tru, someEx, List.length_cons, List.length_nil, List.getElem?_cons_zero, List.getElem?_cons_succ, List.set_cons_zero, List.set_cons_succ, ix_lst, Nat.zero_add, Nat.reduceAdd, slB, isNon, D.isStr, if_true, evSl, evCs, tg_n, tg_t2, tg_t3, tg_t4, Tg.slots, Tg.slotss, wipeE, wr_noexc, Option.map_some, Option.bind_some, reduceIte, m5', eq]
        rw [wo_cons]
        simp only [evS, evE, evEs, evAn, evOr, wo_outs, wo_nx, wo_rt, wr_bind, wr_ok, wo_ite, wr_ite, wr_lift, wr_tru, someEx, List.length_cons, List.length_nil, List.getElem?_cons_zero, List.getElem?_cons_succ, List.set_cons_zero, List.set_cons_succ, ix_lst, Nat.zero_add, Nat.reduceAdd, slB, isNon, D.isStr, if_true, evSl, evCs, tg_n, tg_t2, tg_t3, tg_t4, Tg.slots, Tg.slotss, wipeE, wr_noexc, Option.map_some, Option.bind_some, reduceIte, mq, mul_int (c1 _), mul_int (c2 _), mul_int (c3 _), mul_int (c4 _), add_int]
        rw [wo_cons]
        simp only [evS, evE, evEs, evAn, evOr, wo_outs, wo_nx, wo_rt, wr_bind, wr_ok, wo_ite, wr_ite, wr_lift, wr_tru, someEx, List.length_cons, List.length_nil, List.getElem?_cons_zero, List.getElem?_cons_succ, List.set_cons_zero, List.set_cons_succ, ix_lst, Nat.zero_add, Nat.reduceAdd, slB, isNon, D.isStr, if_true, evSl, evCs, tg_n, tg_t2, tg_t3, tg_t4, Tg.slots, Tg.slotss, wipeE, wr_noexc, Option.map_some, Option.bind_some, reduceIte, add_int, m5', eq', mul_int (c5 _ _), mq']
        rw [wo_cons]
        simp only [evS, evE, evEs, evAn, evOr, wo_outs, wo_nx, wo_rt, wr_bind, wr_ok, wo_ite, wr_ite, wr_lift, wr_tru, someEx, List.length_cons, List.length_nil, List.getElem?_cons_zero, List.getElem?_cons_succ, List.set_cons_zero, List.set_cons_succ, ix_lst, Nat.zero_add, Nat.reduceAdd, slB, isNon, D.isStr, if_true, evSl, evCs, tg_n, tg_t2, tg_t3, tg_t4, Tg.slots, Tg.slotss, wipeE, wr_noexc, Option.map_some, Option.bind_some, reduceIte, mul_int (c6 _ _), mz, f64, md]
        exact ⟨_, rfl, (fin _).1, (fin _).2, t + 1, l, by omega, by omega, rfl⟩
      by_cases hc : (1000000000000000000 : Int) ≤ cell
      · simp only [hc, decide_true, evS, evE, evEs, evAn, evOr, wo_outs, wo_nx, wo_rt, wr_bind, wr_ok, wo_ite, wr_ite, wr_lift, wr_tru, someEx, List.length_cons, List.length_nil, List.getElem?_cons_zero, List.getElem?_cons_succ, List.set_cons_zero, List.set_cons_succ, ix_lst, Nat.zero_add, Nat.reduceAdd, slB, isNon, D.isStr, if_true, evSl, evCs, tg_n, tg_t2, tg_t3, tg_t4, Tg.slots, Tg.slotss, wipeE, wr_noexc, Option.map_some, Option.bind_some, reduceIte, Tp, at0, len_lst, lt_int]
        split
        · simp only [wo_cons, wo_nil, evS, evE, evEs, evAn, evOr, wo_outs, wo_nx, wo_rt, wr_bind, wr_ok, wo_ite, wr_ite, wr_lift, wr_tru, someEx, List.length_cons, List.length_nil, List.getElem?_cons_zero, List.getElem?_cons_succ, List.set_cons_zero, List.set_cons_succ, ix_lst, Nat.zero_add, Nat.reduceAdd, slB, isNon, D.isStr, if_true, evSl, evCs, tg_n, tg_t2, tg_t3, tg_t4, Tg.slots, Tg.slotss, wipeE, wr_noexc, Option.map_some, Option.bind_some, reduceIte, p18, sub_int, md, fd, e2]
          exact ⟨_, rfl, (fin _).1, (fin _).2, t + 1, _, by omega, by omega, rfl⟩
        · simp only [wo_nil]
          exact tail
      · simp only [hc, decide_false, evS, evE, evEs, evAn, evOr, wo_outs, wo_nx, wo_rt, wr_bind, wr_ok, wo_ite, wr_ite, wr_lift, wr_tru, someEx, List.length_cons, List.length_nil, List.getElem?_cons_zero, List.getElem?_cons_succ, List.set_cons_zero, List.set_cons_succ, ix_lst, Nat.zero_add, Nat.reduceAdd, slB, isNon, D.isStr, if_true, evSl, evCs, tg_n, tg_t2, tg_t3, tg_t4, Tg.slots, Tg.slotss, wipeE, wr_noexc, Option.map_some, Option.bind_some, reduceIte, Bool.false_eq_true, if_false, wo_nil]
        exact tail
    by_cases hc : cells = []
    · subst hc
      simp only [List.isEmpty_nil, Bool.not_true, Bool.false_eq_true, if_false, wo_nil]
      exact rest 0
    · have hne : cells.isEmpty = false := by
        cases cells with
        | nil => exact absurd rfl hc
        | cons _ _ => rfl
      have pos : 0 < cells.length := List.length_pos_iff.mpr hc
      have ml : ∀ x : Int, evBin .mod (.int x) (.int ((cells.map D.int).length : Nat)) = some (.int (x % (cells.length : Nat))) := fun x => by
        rw [List.length_map]
        exact mod_int (by omega)
      obtain ⟨x, ex, mx⟩ := atI_in (xs := cells.map D.int) (i := t % (cells.length : Nat)) (Int.emod_nonneg _ (by omega)) (by
        rw [List.length_map]
        exact Int.emod_lt_of_pos _ (by omega))
      obtain ⟨cell, _, rfl⟩ := List.mem_map.mp mx
      simp only [hne, Bool.not_false, if_true]
      rw [wo_cons]
      simp only [wo_nil, evS, evE, evEs, evAn, evOr, wo_outs, wo_nx, wo_rt, wr_bind, wr_ok, wo_ite, wr_ite, wr_lift, wr_tru, someEx, List.length_cons, List.length_nil, List.getElem?_cons_zero, List.getElem?_cons_succ, List.set_cons_zero, List.set_cons_succ, ix_lst, Nat.zero_add, Nat.reduceAdd, slB, isNon, D.isStr, if_true, evSl, evCs, tg_n, tg_t2, tg_t3, tg_t4, Tg.slots, Tg.slotss, wipeE, wr_noexc, Option.map_some, Option.bind_some, reduceIte, at0, len_lst, ml, ex]
      exact rest cell
theorem draw_ok {P : Prog} {n kd : Nat} {cells : List Int} (h : P.fns[kd]? = some drawF) : DrawOk (run P (n + 1)) kd cells := fun b S many hS hb h0 h1 => wr_run h rfl (wo_mono (draw_body hS hb h0 h1 (N := fun _ _ => False)) (fun _ _ z => z.elim) fun _ _ z => z)
end VE

set_option Elab.async false
set_option linter.all false
set_option maxRecDepth 100000
set_option maxHeartbeats 4000000
/-! VL, part 2: plain facts of operations; names. -/
namespace VE
open PySem PySem.Spec PyProof.Rows L2

theorem eq_int (i j : Int) : evCmp .eq (.int i) (.int j) = some (i == j) := rfl
theorem eq_str (x y : Str) : evCmp .eq (.str x) (.str y) = some (x == y) := by
  have d : ∀ z : Str, (PyData.str z).depth ≤ 64 := fun z => by
    simp only [PyData.depth]
    omega
  show (if (PyData.str x).depth ≤ 64 ∧ (PyData.str y).depth ≤ 64 then some (PyData.eqv (.str x) (.str y)) else none) = _
  rw [if_pos ⟨d x, d y⟩]
  simp only [PyData.eqv]
theorem isIx_lo {n : Nat} {r : Int} (h0 : 0 ≤ r) (d : Nat) : HT.sIx n d (some r) = min r.toNat n := by
  have e : r = ((r.toNat : Nat) : Int) := by omega
  rw [e, HT.sIx_nat, Int.toNat_natCast]
theorem cut_from (xs : List D) {r : Int} (h0 : 0 ≤ r) : cutD xs (some r) none = xs.drop r.toNat := by
  unfold cutD
  rw [isIx_lo h0, HT.sIx_none]
  by_cases h : r.toNat ≤ xs.length
  · rw [Nat.min_eq_left h]
    exact List.take_of_length_le (by rw [List.length_drop]; exact Nat.le_refl _)
  · rw [Nat.min_eq_right (by omega), List.drop_length, List.drop_of_length_le (by omega)]
    simp
theorem cut_to (xs : List D) {r : Int} (h0 : 0 ≤ r) : cutD xs none (some r) = xs.take r.toNat := by
  unfold cutD
  rw [isIx_lo h0, HT.sIx_none, List.drop_zero, Nat.sub_zero]
  by_cases h : r.toNat ≤ xs.length
  · rw [Nat.min_eq_left h]
  · rw [Nat.min_eq_right (by omega), List.take_length, List.take_of_length_le (by omega)]
theorem cut_mid (xs : List D) {r q : Int} (h0 : 0 ≤ r) (h1 : r ≤ q) : cutD xs (some r) (some q) = (xs.drop r.toNat).take (q.toNat - r.toNat) := by
  unfold cutD
  rw [isIx_lo h0, isIx_lo (by omega)]
  by_cases h : r.toNat ≤ xs.length
  · rw [Nat.min_eq_left h]
    by_cases h' : q.toNat ≤ xs.length
    · rw [Nat.min_eq_left h']
    · rw [Nat.min_eq_right (by omega), List.take_of_length_le (by rw [List.length_drop]; exact Nat.le_refl _), List.take_of_length_le (by rw [List.length_drop]; omega)]
  · have e : min r.toNat xs.length = xs.length := Nat.min_eq_right (by omega)
    rw [e, List.drop_length, List.drop_of_length_le (i := r.toNat) (by omega)]
    simp
theorem tl_cut_from (s : Str) {r : Int} (h0 : 0 ≤ r) : TL.tl (cutS s (some r) none) = (TL.tl s).drop r.toNat := by
  show (s.cps.toList.drop (HT.sIx s.length 0 (some r))).take (HT.sIx s.length s.length none - HT.sIx s.length 0 (some r)) = _
  rw [isIx_lo h0, HT.sIx_none]
  have e : s.length = s.cps.toList.length := rfl
  by_cases h : r.toNat ≤ s.length
  · rw [Nat.min_eq_left h]
    exact List.take_of_length_le (by rw [List.length_drop, ← e]; exact Nat.le_refl _)
  · rw [Nat.min_eq_right (by omega), Nat.sub_self, List.take_zero]
    exact (List.drop_of_length_le (by show s.cps.toList.length ≤ _; omega)).symm
theorem tl_cut_to (s : Str) {r : Int} (h0 : 0 ≤ r) : TL.tl (cutS s none (some r)) = (TL.tl s).take r.toNat := by
  show (s.cps.toList.drop (HT.sIx s.length 0 none)).take (HT.sIx s.length s.length (some r) - HT.sIx s.length 0 none) = _
  rw [isIx_lo h0, HT.sIx_none, List.drop_zero, Nat.sub_zero]
  have e : s.length = s.cps.toList.length := rfl
  by_cases h : r.toNat ≤ s.length
  · rw [Nat.min_eq_left h]
  · rw [Nat.min_eq_right (by omega)]
    rw [List.take_of_length_le (by omega)]
    exact (List.take_of_length_le (by show s.cps.toList.length ≤ _; omega)).symm
theorem strs_map : ∀ ws : List Str, strs? (ws.map D.str) = some ws
  | [] => rfl
  | w :: ws => by
    simp only [List.map_cons, strs?, strs_map ws]
    rfl
theorem join_ev {s : Str} {ws : List Str} (h : (ws.map (·.length)).sum + ws.length * s.length ≤ 16777216) : evMe .join (.str s) [.lst (ws.map .str)] = some (.str (Txt.join s ws)) := by
  show ((strs? (ws.map D.str)).bind fun ys => if (ys.map (·.length)).sum + ys.length * s.length ≤ 16777216 then some (D.str (Txt.join s ys)) else none) = _
  rw [strs_map]
  exact if_pos h
theorem tl_joinE (s : Str) (ws : List Str) : TL.tl (Txt.join s ws) = TL.joinL (TL.tl s) (ws.map TL.tl) := by rw [TL.join_eq, TL.tl_join]
theorem add_str {x y : Str} (h : x.length + y.length ≤ sizeLine) : evBin .add (.str x) (.str y) = some (.str (x ++ y)) := if_pos h
theorem add_lst {x y : List D} (h : x.length + y.length ≤ sizeLine) : evBin .add (.lst x) (.lst y) = some (.lst (x ++ y)) := if_pos h
theorem add_tup {x y : List D} (h : x.length + y.length ≤ sizeLine) : evBin .add (.tup x) (.tup y) = some (.tup (x ++ y)) := if_pos h
theorem len_str (s : Str) : evBi .len [.str s] = some (.int s.length) := rfl
theorem rng1 {j : Int} (h0 : 0 ≤ j) (h1 : j ≤ 16777216) : evRng [.int j] = some ((List.range j.toNat).map fun k => .int (k : Nat)) := if_pos ⟨by omega, h1⟩
theorem items_lst (xs : List D) : items (.lst xs) = some xs := rfl
theorem items_tup (xs : List D) : items (.tup xs) = some xs := rfl
theorem range_get {n i : Nat} {d : D} (h : ((List.range n).map fun k => D.int ((k : Nat) : Int))[i]? = some d) : d = .int (i : Nat) ∧ i < n := by
  rw [List.getElem?_map] at h
  cases q : (List.range n)[i]? with
  | none =>
    rw [q] at h
    cases h
  | some k =>
    rw [q] at h
    cases h
    have lt := (List.getElem?_eq_some_iff.mp q).1
    rw [List.length_range] at lt
    rw [List.getElem?_range lt] at q
    cases q
    exact ⟨rfl, lt⟩
/-- a list all of whose items are of one kind -/
theorem unmap {α : Type} {f : α → D} {r : List D} (h : ∀ (i : Nat) (y : D), r[i]? = some y → ∃ a, y = f a) : ∃ as : List α, r = as.map f ∧ as.length = r.length := by
  induction r with
  | nil => exact ⟨[], rfl, rfl⟩
  | cons d r ih =>
    obtain ⟨a, rfl⟩ := h 0 d rfl
    obtain ⟨as, e, l⟩ := ih fun i y hy => h (i + 1) y (by simpa using hy)
    exact ⟨a :: as, by rw [e]; rfl, by simp [l]⟩
theorem unmapP {α : Type} {f : α → D} {P : Nat → α → Prop} {r : List D} (h : ∀ (i : Nat) (y : D), r[i]? = some y → ∃ a, y = f a ∧ P i a) : ∃ as : List α, r = as.map f ∧ as.length = r.length ∧ ∀ (i : Nat) (a : α), as[i]? = some a → P i a := by
  induction r generalizing P with
  | nil => exact ⟨[], rfl, rfl, fun i a h => by simp at h⟩
  | cons d r ih =>
    obtain ⟨a, rfl, pa⟩ := h 0 d rfl
    obtain ⟨as, e, l, q⟩ := ih (P := fun i => P (i + 1)) fun i y hy => h (i + 1) y (by simpa using hy)
    refine ⟨a :: as, by rw [e]; rfl, by simp [l], fun i b hb => ?_⟩
    cases i with
    | zero =>
      cases hb
      exact pa
    | succ i => exact q i b (by simpa using hb)
/-! ### names -/
def Name (s : Str) : Prop := 1 ≤ s.length ∧ s.length ≤ 8 ∧ ∀ c ∈ TL.tl s, 97 ≤ c ∧ c ≤ 122
instance (s : Str) : Decidable (Name s) := inferInstanceAs (Decidable (1 ≤ s.length ∧ s.length ≤ 8 ∧ ∀ c ∈ TL.tl s, 97 ≤ c ∧ c ≤ 122))
def words12 : List Str := ["rate", "base", "rule", "clock", "days", "feast", "day", "week", "a", "ab", "abcdefgh", "z"]
def letters : Str := "abcdefghijklmnopqrstuvwxyz"
theorem words_ok : (∀ w ∈ words12, Name w) ∧ words12.Nodup := by decide +kernel
theorem letter_at {i : Int} (h0 : 0 ≤ i) (h1 : i < 26) : evIx (.str letters) (.int i) = some (.str ⟨#[97 + i.toNat]⟩) := by
  have key : ∀ n : Nat, n < 26 → letters.cps.toList[n]? = some (97 + n) := by decide +kernel
  show (atI letters.cps.toList i).map _ = _
  rw [atI_nat h0 (key i.toNat (by omega))]
  rfl
def namesF (kd : Nat) : Fn := ⟨1, 10, true, [
  .asg 1 (.str "abcdefghijklmnopqrstuvwxyz"),
  .asg 2 (.call kd [.v 0, .int 12]),
  .iff (.cmp .eq (.call kd [.v 0, .int 5]) (.int 0)) [.asg 6 (.lst [.str "rate", .str "base", .str "rule", .str "clock", .str "days", .str "feast", .str "day", .str "week", .str "a", .str "ab", .str "abcdefgh", .str "z"]), .ret (.bin .add (.sl (.v 6) (.v 2) (.non)) (.sl (.v 6) (.non) (.v 2)))] [],
  .asg 3 (.me .join (.str "") [.comp (.ix (.v 1) (.call kd [.v 0, .int 26])) (.n 9) (.rng [.bin .add (.int 1) (.call kd [.v 0, .int 8])]) []]),
  .asgT (.t [.n 7, .n 8]) (.tup [.call kd [.v 0, .bi .len [.v 3]], .call kd [.v 0, .int 26]]),
  .asg 4 (.ix (.lst [.int 1, .int 3, .int 5, .int 7, .int 9, .int 11, .int 15, .int 17, .int 19, .int 21, .int 23, .int 25]) (.v 2)),
  .asg 5 (.comp (.sl (.sl (.v 3) (.bin .add (.v 7) (.int 1)) (.non)) (.non) (.call kd [.v 0, .int 8])) (.n 9) (.rng [.int 12]) []),
  .ret (.comp (.bin .add (.bin .add (.sl (.v 3) (.non) (.v 7)) (.ix (.v 1) (.bin .mod (.bin .add (.v 8) (.bin .mul (.v 4) (.v 9))) (.int 26)))) (.ix (.v 5) (.v 9))) (.n 9) (.rng [.int 12]) [])]⟩
def NamesOk (d : D) : Prop := ∃ ws : List Str, d = .lst (ws.map .str) ∧ ws.length = 12 ∧ (∀ w ∈ ws, Name w) ∧ ws.Nodup
theorem one_len (c : Nat) : (⟨#[c]⟩ : Str).length = 1 := rfl
theorem tl_one (c : Nat) : TL.tl ⟨#[c]⟩ = [c] := rfl
theorem joinL_nil : ∀ ps : List (List Nat), TL.joinL [] ps = ps.flatten
  | [] => rfl
  | [p] => by simp [TL.joinL]
  | p :: q :: r => by
    have ih := joinL_nil (q :: r)
    show p ++ ([] ++ TL.joinL [] (q :: r)) = _
    rw [ih]
    simp
theorem flat_ones : ∀ cs : List Nat, (cs.map fun c => [c]).flatten = cs
  | [] => rfl
  | c :: cs => by
    rw [List.map_cons, List.flatten_cons, flat_ones cs]
    rfl
theorem sum_ones : ∀ cs : List Nat, ((cs.map fun c => (⟨#[c]⟩ : Str)).map (·.length)).sum = cs.length
  | [] => rfl
  | c :: cs => by
    rw [List.map_cons, List.map_cons, List.sum_cons, sum_ones cs, List.length_cons]
    show 1 + cs.length = _
    omega
/-- the names of a base -/
def nameBy (base : Str) (at_ first step : Int) (e : Str) (k : Nat) : Str := cutS base none (some at_) ++ ⟨#[97 + ((first + step * (k : Int)) % 26).toNat]⟩ ++ e
theorem names_body {gl : List D} {rc : Nat → List D → Sto → Res D} {kd : Nat} {cells : List Int} {b : Int} {S : Sto} (dr : DrawOk rc kd cells) (h : StB cells b S) (hb : b + 40 ≤ 2 ^ 60) {N : Env → Sto → Prop} :
    Wo (evSs gl rc (namesF kd).body (startE (namesF kd).nl [.obj 0]) S) N fun d S => NamesOk d ∧ StB cells (b + 40) S := by
  show Wo (evSs gl rc (namesF kd).body [some (.obj 0), none, none, none, none, none, none, none, none, none] S) N _
  unfold namesF
  dsimp only
  rw [wo_cons]
  simp only [evS, evE, evEs, evAn, evOr, wo_outs, wo_nx, wo_rt, wr_bind, wr_ok, wo_ite, wr_ite, wr_lift, wr_tru, someEx, List.length_cons, List.length_nil, List.getElem?_cons_zero, List.getElem?_cons_succ, List.set_cons_zero, List.set_cons_succ, ix_lst, Nat.zero_add, Nat.reduceAdd, slB, isNon, D.isStr, if_true, evSl, evCs, tg_n, tg_t2, tg_t3, tg_t4, Tg.slots, Tg.slotss, wipeE, wr_noexc, Option.map_some, Option.bind_some, reduceIte]
  rw [wo_cons]
  simp only [evS, evE, evEs, evAn, evOr, wo_outs, wo_nx, wo_rt, wr_bind, wr_ok, wo_ite, wr_ite, wr_lift, wr_tru, someEx, List.length_cons, List.length_nil, List.getElem?_cons_zero, List.getElem?_cons_succ, List.set_cons_zero, List.set_cons_succ, ix_lst, Nat.zero_add, Nat.reduceAdd, slB, isNon, D.isStr, if_true, evSl, evCs, tg_n, tg_t2, tg_t3, tg_t4, Tg.slots, Tg.slotss, wipeE, wr_noexc, Option.map_some, Option.bind_some, reduceIte]
  refine wr_mono (dr b S 12 h (by omega) (by decide) (by decide)) fun d1 S1 ⟨turn, e1, t0, t1, h1⟩ => ?_
  subst e1
  rw [wo_cons]
  simp only [evS, evE, evEs, evAn, evOr, wo_outs, wo_nx, wo_rt, wr_bind, wr_ok, wo_ite, wr_ite, wr_lift, wr_tru, someEx, List.length_cons, List.length_nil, List.getElem?_cons_zero, List.getElem?_cons_succ, List.set_cons_zero, List.set_cons_succ, ix_lst, Nat.zero_add, Nat.reduceAdd, slB, isNon, D.isStr, if_true, evSl, evCs, tg_n, tg_t2, tg_t3, tg_t4, Tg.slots, Tg.slotss, wipeE, wr_noexc, Option.map_some, Option.bind_some, reduceIte]
  refine wr_mono (dr (b + 1) S1 5 h1 (by omega) (by decide) (by decide)) fun d2 S2 ⟨five, e2, f0, f1, h2⟩ => ?_
  subst e2
  simp only [evS, evE, evEs, evAn, evOr, wo_outs, wo_nx, wo_rt, wr_bind, wr_ok, wo_ite, wr_ite, wr_lift, wr_tru, someEx, List.length_cons, List.length_nil, List.getElem?_cons_zero, List.getElem?_cons_succ, List.set_cons_zero, List.set_cons_succ, ix_lst, Nat.zero_add, Nat.reduceAdd, slB, isNon, D.isStr, if_true, evSl, evCs, tg_n, tg_t2, tg_t3, tg_t4, Tg.slots, Tg.slotss, wipeE, wr_noexc, Option.map_some, Option.bind_some, reduceIte, eq_int]
  by_cases hf : (five == 0) = true
  · rw [if_pos hf]
    rw [wo_cons]
    simp only [evS, evE, evEs, evAn, evOr, wo_outs, wo_nx, wo_rt, wr_bind, wr_ok, wo_ite, wr_ite, wr_lift, wr_tru, someEx, List.length_cons, List.length_nil, List.getElem?_cons_zero, List.getElem?_cons_succ, List.set_cons_zero, List.set_cons_succ, ix_lst, Nat.zero_add, Nat.reduceAdd, slB, isNon, D.isStr, if_true, evSl, evCs, tg_n, tg_t2, tg_t3, tg_t4, Tg.slots, Tg.slotss, wipeE, wr_noexc, Option.map_some, Option.bind_some, reduceIte]
    rw [wo_cons]
    simp only [evS, evE, evEs, evAn, evOr, wo_outs, wo_nx, wo_rt, wr_bind, wr_ok, wo_ite, wr_ite, wr_lift, wr_tru, someEx, List.length_cons, List.length_nil, List.getElem?_cons_zero, List.getElem?_cons_succ, List.set_cons_zero, List.set_cons_succ, ix_lst, Nat.zero_add, Nat.reduceAdd, slB, isNon, D.isStr, if_true, evSl, evCs, tg_n, tg_t2, tg_t3, tg_t4, Tg.slots, Tg.slotss, wipeE, wr_noexc, Option.map_some, Option.bind_some, reduceIte]
    have e0 : ([D.str "rate", .str "base", .str "rule", .str "clock", .str "days", .str "feast", .str "day", .str "week", .str "a", .str "ab", .str "abcdefgh", .str "z"] : List D) = words12.map D.str := rfl
    rw [e0, cut_from _ t0, cut_to _ t0, ← List.map_drop, ← List.map_take]
    have lw : words12.length = 12 := rfl
    have key : evBin .add (.lst ((words12.drop turn.toNat).map D.str)) (.lst ((words12.take turn.toNat).map D.str)) = some (.lst ((words12.drop turn.toNat ++ words12.take turn.toNat).map D.str)) := by
      rw [add_lst, List.map_append]
      rw [List.length_map, List.length_map, List.length_drop, List.length_take, sizeLine_eq]
      omega
    rw [key]
    have pm : (words12.drop turn.toNat ++ words12.take turn.toNat).Perm words12 := by
      have := List.perm_append_comm (l₁ := words12.drop turn.toNat) (l₂ := words12.take turn.toNat)
      rw [List.take_append_drop] at this
      exact this
    refine ⟨_, rfl, ⟨_, rfl, pm.length_eq, fun w hw => words_ok.1 w (pm.subset hw), (pm.nodup_iff).mpr words_ok.2⟩, h2.up (by omega)⟩
  · rw [if_neg hf]
    simp only [wo_nil]
    rw [wo_cons]
    simp only [evS, evE, evEs, evAn, evOr, wo_outs, wo_nx, wo_rt, wr_bind, wr_ok, wo_ite, wr_ite, wr_lift, wr_tru, someEx, List.length_cons, List.length_nil, List.getElem?_cons_zero, List.getElem?_cons_succ, List.set_cons_zero, List.set_cons_succ, ix_lst, Nat.zero_add, Nat.reduceAdd, slB, isNon, D.isStr, if_true, evSl, evCs, tg_n, tg_t2, tg_t3, tg_t4, Tg.slots, Tg.slotss, wipeE, wr_noexc, Option.map_some, Option.bind_some, reduceIte]
    refine wr_mono (dr _ S2 8 h2 (by omega) (by decide) (by decide)) fun d3 S3 ⟨n8, e3, g0, g1, h3⟩ => ?_
    subst e3
    simp only [add_int, evS, evE, evEs, evAn, evOr, wo_outs, wo_nx, wo_rt, wr_bind, wr_ok, wo_ite, wr_ite, wr_lift, wr_tru, someEx, List.length_cons, List.length_nil, List.getElem?_cons_zero, List.getElem?_cons_succ, List.set_cons_zero, List.set_cons_succ, ix_lst, Nat.zero_add, Nat.reduceAdd, slB, isNon, D.isStr, if_true, evSl, evCs, tg_n, tg_t2, tg_t3, tg_t4, Tg.slots, Tg.slotss, wipeE, wr_noexc, Option.map_some, Option.bind_some, reduceIte, rng1 (show 0 ≤ 1 + n8 by omega) (show 1 + n8 ≤ 16777216 by omega), items_lst]
    refine wr_map (I := fun i S => StB cells (b + 3 + i) S) (P := fun _ _ y => ∃ c : Nat, y = .str ⟨#[c]⟩ ∧ 97 ≤ c ∧ c ≤ 122) (k := 0) (h3.up (by omega)) (fun i d S hd hi => ?_) fun r S4 h4 rl rp => ?_
    · obtain ⟨rfl, lt⟩ := range_get hd
      simp only [evS, evE, evEs, evAn, evOr, wo_outs, wo_nx, wo_rt, wr_bind, wr_ok, wo_ite, wr_ite, wr_lift, wr_tru, someEx, List.length_cons, List.length_nil, List.getElem?_cons_zero, List.getElem?_cons_succ, List.set_cons_zero, List.set_cons_succ, ix_lst, Nat.zero_add, Nat.reduceAdd, slB, isNon, D.isStr, if_true, evSl, evCs, tg_n, tg_t2, tg_t3, tg_t4, Tg.slots, Tg.slotss, wipeE, wr_noexc, Option.map_some, Option.bind_some, reduceIte]
      refine wr_mono (dr _ S 26 hi (by omega) (by decide) (by decide)) fun d4 S4 ⟨c, e4, c0, c1, h4⟩ => ?_
      subst e4
      show ∃ a, evIx (.str letters) (.int c) = some a ∧ _
      rw [letter_at c0 c1]
      exact ⟨_, rfl, h4.up (by omega), _, rfl, Nat.le_add_right _ _, by omega⟩
    · have len_r : r.length = (1 + n8).toNat := by rw [rl, List.length_map, List.length_range]
      rw [List.length_map, List.length_range] at h4
      obtain ⟨cs, er, lcs, pcs⟩ := unmapP (f := fun c : Nat => D.str ⟨#[c]⟩) (P := fun _ c => 97 ≤ c ∧ c ≤ 122) (r := r) fun i y hy => by
        have lt := (List.getElem?_eq_some_iff.mp hy).1
        have hr : ((List.range (1 + n8).toNat).map fun k => D.int ((k : Nat) : Int))[i]? = some (.int (i : Nat)) := by
          rw [List.getElem?_map, List.getElem?_range (by omega)]
          rfl
        obtain ⟨c, e, k⟩ := rp i _ y hr hy
        exact ⟨c, e, k⟩
      have lcs : cs.length = (1 + n8).toNat := by omega
      have es : r = (cs.map fun c => (⟨#[c]⟩ : Str)).map D.str := by rw [er, List.map_map]; rfl
      have sm : ((cs.map fun c => (⟨#[c]⟩ : Str)).map (·.length)).sum + (cs.map fun c => (⟨#[c]⟩ : Str)).length * (Str.ofString "").length ≤ 16777216 := by
        rw [sum_ones]
        have : (Str.ofString "").length = 0 := rfl
        rw [this]
        omega
      have ej := join_ev sm
      rw [← es] at ej
      rw [ej]
      refine ⟨_, rfl, ?_⟩
      generalize hbase : Txt.join (Str.ofString "") (cs.map fun c => (⟨#[c]⟩ : Str)) = base
      have tb : TL.tl base = cs := by
        rw [← hbase, tl_joinE]
        show TL.joinL [] _ = _
        rw [joinL_nil, List.map_map]
        exact flat_ones cs
      have lb : base.length = cs.length := by rw [TL.len_tl, tb]
      have lb1 : 1 ≤ base.length := by omega
      have lb8 : base.length ≤ 8 := by omega
      have h4 : StB cells (b + 11) S4 := h4.up (by omega)
      rw [wo_cons]
      simp only [evS, evE, evEs, evAn, evOr, wo_outs, wo_nx, wo_rt, wr_bind, wr_ok, wo_ite, wr_ite, wr_lift, wr_tru, someEx, List.length_cons, List.length_nil, List.getElem?_cons_zero, List.getElem?_cons_succ, List.set_cons_zero, List.set_cons_succ, ix_lst, Nat.zero_add, Nat.reduceAdd, slB, isNon, D.isStr, if_true, evSl, evCs, tg_n, tg_t2, tg_t3, tg_t4, Tg.slots, Tg.slotss, wipeE, wr_noexc, Option.map_some, Option.bind_some, reduceIte, len_str]
      refine wr_mono (dr _ S4 (base.length : Nat) h4 (by omega) (by omega) (by omega)) fun d5 S5 ⟨at_, e5, a0, a1, h5⟩ => ?_
      subst e5
      refine wr_mono (dr _ S5 26 h5 (by omega) (by decide) (by decide)) fun d6 S6 ⟨first, e6, i0, i1, h6⟩ => ?_
      subst e6
      rw [wo_cons]
      simp only [evS, evE, evEs, evAn, evOr, wo_outs, wo_nx, wo_rt, wr_bind, wr_ok, wo_ite, wr_ite, wr_lift, wr_tru, someEx, List.length_cons, List.length_nil, List.getElem?_cons_zero, List.getElem?_cons_succ, List.set_cons_zero, List.set_cons_succ, ix_lst, Nat.zero_add, Nat.reduceAdd, slB, isNon, D.isStr, if_true, evSl, evCs, tg_n, tg_t2, tg_t3, tg_t4, Tg.slots, Tg.slotss, wipeE, wr_noexc, Option.map_some, Option.bind_some, reduceIte]
      have step_at : ∃ step : Int, atI ([.int 1, .int 3, .int 5, .int 7, .int 9, .int 11, .int 15, .int 17, .int 19, .int 21, .int 23, .int 25] : List D) turn = some (.int step) ∧ 0 < step ∧ step < 26 ∧ ∀ x : Int, 0 < x → x < 12 → step * x % 26 ≠ 0 := by
        obtain ⟨x, e, m⟩ := atI_in (xs := ([.int 1, .int 3, .int 5, .int 7, .int 9, .int 11, .int 15, .int 17, .int 19, .int 21, .int 23, .int 25] : List D)) t0 (by simpa using t1)
        rw [e]
        simp only [List.mem_cons, List.not_mem_nil, or_false] at m
        rcases m with rfl | rfl | rfl | rfl | rfl | rfl | rfl | rfl | rfl | rfl | rfl | rfl <;> exact ⟨_, rfl, by decide, by decide, fun x x0 x1 => by omega⟩
      obtain ⟨step, es2, s0, s1, sx⟩ := step_at
      rw [es2]
      refine ⟨_, rfl, ?_⟩
      rw [wo_cons]
      simp only [evS, evE, evEs, evAn, evOr, wo_outs, wo_nx, wo_rt, wr_bind, wr_ok, wo_ite, wr_ite, wr_lift, wr_tru, someEx, List.length_cons, List.length_nil, List.getElem?_cons_zero, List.getElem?_cons_succ, List.set_cons_zero, List.set_cons_succ, ix_lst, Nat.zero_add, Nat.reduceAdd, slB, isNon, D.isStr, if_true, evSl, evCs, tg_n, tg_t2, tg_t3, tg_t4, Tg.slots, Tg.slotss, wipeE, wr_noexc, Option.map_some, Option.bind_some, reduceIte, items_lst, rng1 (show (0 : Int) ≤ 12 by decide) (show (12 : Int) ≤ 16777216 by decide)]
      refine wr_map (I := fun i S => StB cells (b + 13 + i) S) (P := fun _ _ y => ∃ e : Str, y = .str e ∧ e.length + at_.toNat + 1 ≤ base.length ∧ ∀ c ∈ TL.tl e, 97 ≤ c ∧ c ≤ 122) (k := 0) (h6.up (by omega)) (fun i d S hd hi => ?_) fun ends S7 h7 el ep => ?_
      · obtain ⟨rfl, lt⟩ := range_get hd
        have lt : i < 12 := lt
        simp only [evS, evE, evEs, evAn, evOr, wo_outs, wo_nx, wo_rt, wr_bind, wr_ok, wo_ite, wr_ite, wr_lift, wr_tru, someEx, List.length_cons, List.length_nil, List.getElem?_cons_zero, List.getElem?_cons_succ, List.set_cons_zero, List.set_cons_succ, ix_lst, Nat.zero_add, Nat.reduceAdd, slB, isNon, D.isStr, if_true, evSl, evCs, tg_n, tg_t2, tg_t3, tg_t4, Tg.slots, Tg.slotss, wipeE, wr_noexc, Option.map_some, Option.bind_some, reduceIte, add_int]
        refine wr_mono (dr _ S 8 hi (by omega) (by decide) (by decide)) fun d8 S8 ⟨q, e8, q0, q1, h8⟩ => ?_
        subst e8
        simp only [evS, evE, evEs, evAn, evOr, wo_outs, wo_nx, wo_rt, wr_bind, wr_ok, wo_ite, wr_ite, wr_lift, wr_tru, someEx, List.length_cons, List.length_nil, List.getElem?_cons_zero, List.getElem?_cons_succ, List.set_cons_zero, List.set_cons_succ, ix_lst, Nat.zero_add, Nat.reduceAdd, slB, isNon, D.isStr, if_true, evSl, evCs, tg_n, tg_t2, tg_t3, tg_t4, Tg.slots, Tg.slotss, wipeE, wr_noexc, Option.map_some, Option.bind_some, reduceIte]
        refine ⟨h8.up (by omega), _, rfl, ?_, ?_⟩
        · rw [TL.len_tl, tl_cut_to _ q0, tl_cut_from _ (by omega), List.length_take, List.length_drop, tb]
          omega
        · intro c hc
          rw [tl_cut_to _ q0, tl_cut_from _ (by omega), tb] at hc
          obtain ⟨j, hj⟩ := List.mem_iff_getElem?.mp (List.mem_of_mem_drop (List.mem_of_mem_take hc))
          exact pcs j c hj
      · rw [List.length_map, List.length_range] at h7 el
        have e12 : (12 : Int).toNat = 12 := rfl
        rw [e12] at h7 el
        obtain ⟨es, ees, les, pes⟩ := unmapP (f := D.str) (P := fun _ e => e.length + at_.toNat + 1 ≤ base.length ∧ ∀ c ∈ TL.tl e, 97 ≤ c ∧ c ≤ 122) (r := ends) fun i y hy => by
          have lt := (List.getElem?_eq_some_iff.mp hy).1
          have hr : ((List.range (12 : Int).toNat).map fun k => D.int ((k : Nat) : Int))[i]? = some (.int (i : Nat)) := by
            rw [List.getElem?_map, List.getElem?_range (by rw [e12]; omega)]
            rfl
          exact ep i _ y hr hy
        have h7 : StB cells (b + 30) S7 := h7.up (by omega)
        rw [wo_cons]
        simp only [evS, evE, evEs, evAn, evOr, wo_outs, wo_nx, wo_rt, wr_bind, wr_ok, wo_ite, wr_ite, wr_lift, wr_tru, someEx, List.length_cons, List.length_nil, List.getElem?_cons_zero, List.getElem?_cons_succ, List.set_cons_zero, List.set_cons_succ, ix_lst, Nat.zero_add, Nat.reduceAdd, slB, isNon, D.isStr, if_true, evSl, evCs, tg_n, tg_t2, tg_t3, tg_t4, Tg.slots, Tg.slotss, wipeE, wr_noexc, Option.map_some, Option.bind_some, reduceIte, items_lst, rng1 (show (0 : Int) ≤ 12 by decide) (show (12 : Int) ≤ 16777216 by decide)]
        have cutlen : ∀ c, TL.tl (cutS base none (some at_)) = c → c.length = at_.toNat := fun c e => by
          rw [← e, tl_cut_to _ a0, List.length_take, tb]
          omega
        refine wr_map (I := fun _ S => StB cells (b + 30) S) (P := fun i _ y => ∃ e, es[i]? = some e ∧ y = .str (nameBy base at_ first step e i)) (k := 0) h7 (fun i d S hd hi => ?_) fun r S8 h8 rl2 rp2 => ?_
        · obtain ⟨rfl, lt⟩ := range_get hd
          have lt : i < 12 := lt
          have m26 : evBin .mod (.int (first + step * (i : Nat))) (.int 26) = some (.int ((first + step * (i : Nat)) % 26)) := mod_int (by decide)
          have cm : CMul step ((i : Nat) : Int) := .inl (by constructor <;> omega)
          have z0 : 0 ≤ (first + step * ((i : Nat) : Int)) % 26 := Int.emod_nonneg _ (by decide)
          have z1 : (first + step * ((i : Nat) : Int)) % 26 < 26 := Int.emod_lt_of_pos _ (by decide)
          have la : evIx (.str (Str.ofString "abcdefghijklmnopqrstuvwxyz")) (.int ((first + step * (i : Nat)) % 26)) = some (.str ⟨#[97 + ((first + step * (i : Nat)) % 26).toNat]⟩) := letter_at z0 z1
          have ei : i < es.length := by omega
          obtain ⟨ee, hee⟩ : ∃ ee, es[i]? = some ee := ⟨es[i], List.getElem?_eq_getElem ei⟩
          have at_e : atI ends ((i : Nat) : Int) = some (.str ee) := atI_nat (by omega) (by rw [ees, Int.toNat_natCast, List.getElem?_map, hee]; rfl)
          obtain ⟨pe1, pe2⟩ := pes i ee hee
          have lc := cutlen _ rfl
          rw [← TL.len_tl] at lc
          simp only [evS, evE, evEs, evAn, evOr, wo_outs, wo_nx, wo_rt, wr_bind, wr_ok, wo_ite, wr_ite, wr_lift, wr_tru, someEx, List.length_cons, List.length_nil, List.getElem?_cons_zero, List.getElem?_cons_succ, List.set_cons_zero, List.set_cons_succ, ix_lst, Nat.zero_add, Nat.reduceAdd, slB, isNon, D.isStr, if_true, evSl, evCs, tg_n, tg_t2, tg_t3, tg_t4, Tg.slots, Tg.slotss, wipeE, wr_noexc, Option.map_some, Option.bind_some, reduceIte, mul_int cm, add_int, m26, la, at_e]
          have s1' : (cutS base none (some at_)).length + (⟨#[97 + ((first + step * (i : Nat)) % 26).toNat]⟩ : Str).length ≤ sizeLine := by
            rw [lc, one_len, sizeLine_eq]
            omega
          rw [add_str s1']
          refine ⟨_, rfl, ?_⟩
          have s2' : (cutS base none (some at_) ++ (⟨#[97 + ((first + step * (i : Nat)) % 26).toNat]⟩ : Str)).length + ee.length ≤ sizeLine := by
            rw [TL.len_tl, TL.tl_append, List.length_append, ← TL.len_tl, lc, tl_one, sizeLine_eq]
            simp only [List.length_cons, List.length_nil]
            omega
          rw [add_str s2']
          exact ⟨_, rfl, hi, ee, hee, rfl⟩
        · rw [List.length_map, List.length_range, e12] at rl2
          have each : ∀ (i : Nat) (y : D), r[i]? = some y → ∃ w : Str, y = .str w ∧ ∃ e, es[i]? = some e ∧ w = nameBy base at_ first step e i := fun i y hy => by
            have lt := (List.getElem?_eq_some_iff.mp hy).1
            have hr : ((List.range (12 : Int).toNat).map fun k => D.int ((k : Nat) : Int))[i]? = some (.int (i : Nat)) := by
              rw [List.getElem?_map, List.getElem?_range (by rw [e12]; omega)]
              rfl
            obtain ⟨e, q1, q2⟩ := rp2 i _ y hr hy
            exact ⟨_, q2, e, q1, rfl⟩
          obtain ⟨ws, ew, lw, pw⟩ := unmapP (f := D.str) each
          have tlw : ∀ (i : Nat) (w : Str), ws[i]? = some w → ∃ e : List Nat, TL.tl w = (cs.take at_.toNat) ++ (97 + ((first + step * (i : Nat)) % 26).toNat) :: e ∧ e.length + at_.toNat + 1 ≤ base.length ∧ ∀ c ∈ e, 97 ≤ c ∧ c ≤ 122 := fun i w hw => by
            obtain ⟨e, q1, q2⟩ := pw i w hw
            obtain ⟨pe1, pe2⟩ := pes i e q1
            refine ⟨TL.tl e, ?_, by rw [← TL.len_tl]; exact pe1, pe2⟩
            rw [q2]
            unfold nameBy
            rw [TL.tl_append, TL.tl_append, tl_cut_to _ a0, tb, tl_one]
            simp
          have z0 : ∀ i : Nat, 0 ≤ (first + step * ((i : Nat) : Int)) % 26 := fun i => Int.emod_nonneg _ (by decide)
          have z1 : ∀ i : Nat, (first + step * ((i : Nat) : Int)) % 26 < 26 := fun i => Int.emod_lt_of_pos _ (by decide)
          refine ⟨⟨ws, by rw [ew], by omega, fun w hw => ?_, ?_⟩, h8.up (by omega)⟩
          · obtain ⟨i, hi⟩ := List.mem_iff_getElem?.mp hw
            obtain ⟨e, q1, q2, q3⟩ := tlw i w hi
            have len : w.length = (cs.take at_.toNat).length + (e.length + 1) := by
              rw [TL.len_tl, q1, List.length_append, List.length_cons]
            rw [List.length_take] at len
            refine ⟨by omega, by omega, fun c hc => ?_⟩
            rw [q1, List.mem_append, List.mem_cons] at hc
            rcases hc with hc | hc | hc
            · obtain ⟨j, hj⟩ := List.mem_iff_getElem?.mp (List.mem_of_mem_take hc)
              exact pcs j c hj
            · have a1 := z0 i
              have a2 := z1 i
              subst hc
              exact ⟨Nat.le_add_right _ _, by omega⟩
            · exact q3 c hc
          · have inj : ∀ (i j : Nat) (w : Str), i < j → ws[i]? = some w → ws[j]? = some w → False := fun i j w lt hi hj => by
              obtain ⟨e, q1, _⟩ := tlw i w hi
              obtain ⟨e', q2, _⟩ := tlw j w hj
              rw [q1] at q2
              have q3 := List.append_cancel_left q2
              have q4 : (first + step * (i : Nat)) % 26 = (first + step * (j : Nat)) % 26 := by
                have q5 := (List.cons.inj q3).1
                have a1 := z0 i
                have a2 := z0 j
                omega
              have ltj := (List.getElem?_eq_some_iff.mp hj).1
              refine sx ((j : Int) - (i : Int)) (by omega) (by omega) ?_
              have e1 : step * ((j : Int) - (i : Int)) = (first + step * (j : Nat)) - (first + step * (i : Nat)) := by
                rw [Int.mul_sub]
                omega
              rw [e1, Int.sub_emod, q4, Int.sub_self]
              rfl
            rw [List.nodup_iff_pairwise_ne, List.pairwise_iff_getElem]
            intro i j hi hj lt e
            exact inj i j ws[i] lt (List.getElem?_eq_getElem hi) (by rw [e]; exact List.getElem?_eq_getElem hj)
theorem names_ok {P : Prog} {n kn kd : Nat} {cells : List Int} {b : Int} {S : Sto} (hn : P.fns[kn]? = some (namesF kd)) (hd : P.fns[kd]? = some drawF) (h : StB cells b S) (hb : b + 40 ≤ 2 ^ 60) : Wr (run P (n + 2) kn [.obj 0] S) fun d S => NamesOk d ∧ StB cells (b + 40) S :=
  wr_run hn rfl (wo_mono (names_body (draw_ok hd) h hb (N := fun _ _ => False)) (fun _ _ z => z.elim) fun _ _ z => z)
end VE

set_option Elab.async false
set_option linter.all false
set_option maxRecDepth 100000
set_option maxHeartbeats 4000000
/-! VL, part 3: pick, pools, conditions. -/
namespace VE
open PySem PySem.Spec PyProof.Rows L2

def pickF (kd : Nat) : Fn := ⟨2, 2, false, [
  .ret (.ix (.v 1) (.call kd [.v 0, .bi .len [.v 1]]))]⟩
def PickOk (rc : Nat → List D → Sto → Res D) (kp : Nat) (cells : List Int) : Prop := ∀ (b : Int) (S : Sto) (xs : List D), StB cells b S → b ≤ 2 ^ 60 → xs ≠ [] → xs.length < 2 ^ 29 →
  Wr (rc kp [.obj 0, .lst xs] S) fun d S => d ∈ xs ∧ StB cells (b + 1) S
theorem pick_ok {P : Prog} {n kp kd : Nat} {cells : List Int} (hp : P.fns[kp]? = some (pickF kd)) (hd : P.fns[kd]? = some drawF) : PickOk (run P (n + 2)) kp cells := fun b S xs h hb ne hl => by
  have pos := List.length_pos_iff.mpr ne
  refine wr_run hp rfl ?_
  show Wo (evSs P.gl (run P (n + 1)) (pickF kd).body [some (.obj 0), some (.lst xs)] S) _ _
  unfold pickF
  dsimp only
  rw [wo_cons]
  simp only [evS, evE, evEs, evAn, evOr, wo_outs, wo_nx, wo_rt, wr_bind, wr_ok, wo_ite, wr_ite, wr_lift, wr_tru, someEx, List.length_cons, List.length_nil, List.getElem?_cons_zero, List.getElem?_cons_succ, List.set_cons_zero, List.set_cons_succ, ix_lst, Nat.zero_add, Nat.reduceAdd, slB, isNon, D.isStr, if_true, evSl, evCs, tg_n, tg_t2, tg_t3, tg_t4, Tg.slots, Tg.slotss, wipeE, wr_noexc, Option.map_some, Option.bind_some, reduceIte, len_lst]
  refine wr_mono (draw_ok hd b S (xs.length : Nat) h hb (by omega) (by omega)) fun d S1 ⟨r, e, r0, r1, h1⟩ => ?_
  subst e
  simp only [evS, evE, evEs, evAn, evOr, wo_outs, wo_nx, wo_rt, wr_bind, wr_ok, wo_ite, wr_ite, wr_lift, wr_tru, someEx, List.length_cons, List.length_nil, List.getElem?_cons_zero, List.getElem?_cons_succ, List.set_cons_zero, List.set_cons_succ, ix_lst, Nat.zero_add, Nat.reduceAdd, slB, isNon, D.isStr, if_true, evSl, evCs, tg_n, tg_t2, tg_t3, tg_t4, Tg.slots, Tg.slotss, wipeE, wr_noexc, Option.map_some, Option.bind_some, reduceIte]
  obtain ⟨x, ex, mx⟩ := atI_in (xs := xs) r0 r1
  exact ⟨x, ex, mx, h1⟩
/-! ### pools -/
def poolsF (kd : Nat) : Fn := ⟨2, 6, true, [
  .asg 2 (.comp (.ix (.lst [.int 0, .int 1, .int 1439, .bin .mul (.int 60) (.call kd [.v 0, .int 24]), .call kd [.v 0, .int 1440]]) (.call kd [.v 0, .int 5])) (.n 5) (.rng [.ix (.v 1) (.int 0)]) []),
  .asg 3 (.comp (.ix (.lst [.bin .add (.int 1) (.call kd [.v 0, .int 4]), .int 480, .bin .add (.int 1) (.call kd [.v 0, .int 1440]), .int 1440]) (.call kd [.v 0, .int 4])) (.n 5) (.rng [.ix (.v 1) (.int 1)]) []),
  .asg 4 (.lst []),
  .forr (.n 5) (.rng [.ix (.v 1) (.int 2)]) [.app 4 (.ix (.lst [.bin .add (.int 1) (.call kd [.v 0, .int 6]), .int 1441, .bin .add (.int 1) (.call kd [.v 0, .int 10080]), .int 2400]) (.call kd [.v 0, .int 4]))],
  .frz [2, 3, 4],
  .ret (.lst [.v 2, .v 3, .v 4])]⟩
def PoolsOk (d : D) : Prop := ∃ cl da we : List Int, d = .lst [.lst (cl.map .int), .lst (da.map .int), .lst (we.map .int)] ∧ cl.length = 4 ∧ da.length = 3 ∧ we.length = 3 ∧ (∀ x ∈ cl, 0 ≤ x ∧ x < 1440) ∧ (∀ x ∈ da, 1 ≤ x ∧ x ≤ 1440) ∧ ∀ x ∈ we, 1 ≤ x ∧ x ≤ 10080
theorem range_at {n i : Nat} (h : i < n) : ((List.range n).map fun k => D.int ((k : Nat) : Int))[i]? = some (.int (i : Nat)) := by
  rw [List.getElem?_map, List.getElem?_range h]
  rfl
/-- a list made over a range, each item an int with P -/
theorem ints_of {n : Nat} {P : Int → Prop} {r : List D} (rl : r.length = n) (rp : ∀ (i : Nat) (d y : D), ((List.range n).map fun k => D.int ((k : Nat) : Int))[i]? = some d → r[i]? = some y → ∃ x : Int, y = .int x ∧ P x) : ∃ xs : List Int, r = xs.map D.int ∧ xs.length = n ∧ ∀ x ∈ xs, P x := by
  obtain ⟨xs, e, l, q⟩ := unmapP (f := D.int) (P := fun _ x => P x) (r := r) fun i y hy => rp i _ y (range_at (by have := (List.getElem?_eq_some_iff.mp hy).1; omega)) hy
  refine ⟨xs, e, by omega, fun x hx => ?_⟩
  obtain ⟨i, hi⟩ := List.mem_iff_getElem?.mp hx
  exact q i x hi
theorem pools_body {gl : List D} {rc : Nat → List D → Sto → Res D} {kd : Nat} {cells : List Int} {b : Int} {S : Sto} (dr : DrawOk rc kd cells) (h : StB cells b S) (hb : b + 40 ≤ 2 ^ 60) {N : Env → Sto → Prop} :
    Wo (evSs gl rc (poolsF kd).body (startE (poolsF kd).nl [.obj 0, .tup [.int 4, .int 3, .int 3]]) S) N fun d S => PoolsOk d ∧ StB cells (b + 40) S := by
  show Wo (evSs gl rc (poolsF kd).body [some (.obj 0), some (.tup [.int 4, .int 3, .int 3]), none, none, none, none] S) N _
  unfold poolsF
  dsimp only
  have p0 : atI ([.int 4, .int 3, .int 3] : List D) 0 = some (.int 4) := rfl
  have p1 : atI ([.int 4, .int 3, .int 3] : List D) 1 = some (.int 3) := rfl
  have p2 : atI ([.int 4, .int 3, .int 3] : List D) 2 = some (.int 3) := rfl
  have ixt : ∀ (xs : List D) (i : Int), evIx (.tup xs) (.int i) = atI xs i := fun _ _ => rfl
  rw [wo_cons]
  simp only [evS, evE, evEs, evAn, evOr, wo_outs, wo_nx, wo_rt, wr_bind, wr_ok, wo_ite, wr_ite, wr_lift, wr_tru, someEx, List.length_cons, List.length_nil, List.getElem?_cons_zero, List.getElem?_cons_succ, List.set_cons_zero, List.set_cons_succ, ix_lst, Nat.zero_add, Nat.reduceAdd, slB, isNon, D.isStr, if_true, evSl, evCs, tg_n, tg_t2, tg_t3, tg_t4, Tg.slots, Tg.slotss, wipeE, wr_noexc, Option.map_some, Option.bind_some, reduceIte, ixt, p0, items_lst, rng1 (show (0 : Int) ≤ 4 by decide) (show (4 : Int) ≤ 16777216 by decide)]
  refine wr_map (I := fun i S => StB cells (b + 3 * i) S) (P := fun _ _ y => ∃ x : Int, y = .int x ∧ 0 ≤ x ∧ x < 1440) (k := 0) (h.up (by omega)) (fun i d S hd hi => ?_) fun r S1 h1 rl rp => ?_
  · obtain ⟨rfl, lt⟩ := range_get hd
    have lt : i < 4 := lt
    simp only [evS, evE, evEs, evAn, evOr, wo_outs, wo_nx, wo_rt, wr_bind, wr_ok, wo_ite, wr_ite, wr_lift, wr_tru, someEx, List.length_cons, List.length_nil, List.getElem?_cons_zero, List.getElem?_cons_succ, List.set_cons_zero, List.set_cons_succ, ix_lst, Nat.zero_add, Nat.reduceAdd, slB, isNon, D.isStr, if_true, evSl, evCs, tg_n, tg_t2, tg_t3, tg_t4, Tg.slots, Tg.slotss, wipeE, wr_noexc, Option.map_some, Option.bind_some, reduceIte]
    refine wr_mono (dr _ S 24 hi (by omega) (by decide) (by decide)) fun d1 S1 ⟨x1, e1, a0, a1, h1⟩ => ?_
    subst e1
    have cm : CMul 60 x1 := .inl (by decide)
    simp only [evS, evE, evEs, evAn, evOr, wo_outs, wo_nx, wo_rt, wr_bind, wr_ok, wo_ite, wr_ite, wr_lift, wr_tru, someEx, List.length_cons, List.length_nil, List.getElem?_cons_zero, List.getElem?_cons_succ, List.set_cons_zero, List.set_cons_succ, ix_lst, Nat.zero_add, Nat.reduceAdd, slB, isNon, D.isStr, if_true, evSl, evCs, tg_n, tg_t2, tg_t3, tg_t4, Tg.slots, Tg.slotss, wipeE, wr_noexc, Option.map_some, Option.bind_some, reduceIte, mul_int cm]
    refine wr_mono (dr _ S1 1440 h1 (by omega) (by decide) (by decide)) fun d2 S2 ⟨x2, e2, b0, b1, h2⟩ => ?_
    subst e2
    refine wr_mono (dr _ S2 5 h2 (by omega) (by decide) (by decide)) fun d3 S3 ⟨x3, e3, c0, c1, h3⟩ => ?_
    subst e3
    simp only [evS, evE, evEs, evAn, evOr, wo_outs, wo_nx, wo_rt, wr_bind, wr_ok, wo_ite, wr_ite, wr_lift, wr_tru, someEx, List.length_cons, List.length_nil, List.getElem?_cons_zero, List.getElem?_cons_succ, List.set_cons_zero, List.set_cons_succ, ix_lst, Nat.zero_add, Nat.reduceAdd, slB, isNon, D.isStr, if_true, evSl, evCs, tg_n, tg_t2, tg_t3, tg_t4, Tg.slots, Tg.slotss, wipeE, wr_noexc, Option.map_some, Option.bind_some, reduceIte]
    obtain ⟨y, ey, my⟩ := atI_in (xs := ([.int 0, .int 1, .int 1439, .int (60 * x1), .int x2] : List D)) c0 (by simpa using c1)
    refine ⟨y, ey, h3.up (by omega), ?_⟩
    simp only [List.mem_cons, List.not_mem_nil, or_false] at my
    rcases my with rfl | rfl | rfl | rfl | rfl <;> exact ⟨_, rfl, by omega, by omega⟩
  · rw [List.length_map, List.length_range] at h1 rl
    obtain ⟨cl, ecl, lcl, pcl⟩ := ints_of rl rp
    subst ecl
    have h1 : StB cells (b + 12) S1 := h1.up (by omega)
    rw [wo_cons]
    simp only [evS, evE, evEs, evAn, evOr, wo_outs, wo_nx, wo_rt, wr_bind, wr_ok, wo_ite, wr_ite, wr_lift, wr_tru, someEx, List.length_cons, List.length_nil, List.getElem?_cons_zero, List.getElem?_cons_succ, List.set_cons_zero, List.set_cons_succ, ix_lst, Nat.zero_add, Nat.reduceAdd, slB, isNon, D.isStr, if_true, evSl, evCs, tg_n, tg_t2, tg_t3, tg_t4, Tg.slots, Tg.slotss, wipeE, wr_noexc, Option.map_some, Option.bind_some, reduceIte, ixt, p1, items_lst, rng1 (show (0 : Int) ≤ 3 by decide) (show (3 : Int) ≤ 16777216 by decide)]
    refine wr_map (I := fun i S => StB cells (b + 12 + 3 * i) S) (P := fun _ _ y => ∃ x : Int, y = .int x ∧ 1 ≤ x ∧ x ≤ 1440) (k := 0) (h1.up (by omega)) (fun i d S hd hi => ?_) fun r S2 h2 rl rp => ?_
    · obtain ⟨rfl, lt⟩ := range_get hd
      have lt : i < 3 := lt
      simp only [evS, evE, evEs, evAn, evOr, wo_outs, wo_nx, wo_rt, wr_bind, wr_ok, wo_ite, wr_ite, wr_lift, wr_tru, someEx, List.length_cons, List.length_nil, List.getElem?_cons_zero, List.getElem?_cons_succ, List.set_cons_zero, List.set_cons_succ, ix_lst, Nat.zero_add, Nat.reduceAdd, slB, isNon, D.isStr, if_true, evSl, evCs, tg_n, tg_t2, tg_t3, tg_t4, Tg.slots, Tg.slotss, wipeE, wr_noexc, Option.map_some, Option.bind_some, reduceIte]
      refine wr_mono (dr _ S 4 hi (by omega) (by decide) (by decide)) fun d1 S1 ⟨x1, e1, a0, a1, h1⟩ => ?_
      subst e1
      simp only [evS, evE, evEs, evAn, evOr, wo_outs, wo_nx, wo_rt, wr_bind, wr_ok, wo_ite, wr_ite, wr_lift, wr_tru, someEx, List.length_cons, List.length_nil, List.getElem?_cons_zero, List.getElem?_cons_succ, List.set_cons_zero, List.set_cons_succ, ix_lst, Nat.zero_add, Nat.reduceAdd, slB, isNon, D.isStr, if_true, evSl, evCs, tg_n, tg_t2, tg_t3, tg_t4, Tg.slots, Tg.slotss, wipeE, wr_noexc, Option.map_some, Option.bind_some, reduceIte, add_int]
      refine wr_mono (dr _ S1 1440 h1 (by omega) (by decide) (by decide)) fun d2 S2 ⟨x2, e2, b0, b1, h2⟩ => ?_
      subst e2
      simp only [evS, evE, evEs, evAn, evOr, wo_outs, wo_nx, wo_rt, wr_bind, wr_ok, wo_ite, wr_ite, wr_lift, wr_tru, someEx, List.length_cons, List.length_nil, List.getElem?_cons_zero, List.getElem?_cons_succ, List.set_cons_zero, List.set_cons_succ, ix_lst, Nat.zero_add, Nat.reduceAdd, slB, isNon, D.isStr, if_true, evSl, evCs, tg_n, tg_t2, tg_t3, tg_t4, Tg.slots, Tg.slotss, wipeE, wr_noexc, Option.map_some, Option.bind_some, reduceIte, add_int]
      refine wr_mono (dr _ S2 4 h2 (by omega) (by decide) (by decide)) fun d3 S3 ⟨x3, e3, c0, c1, h3⟩ => ?_
      subst e3
      simp only [evS, evE, evEs, evAn, evOr, wo_outs, wo_nx, wo_rt, wr_bind, wr_ok, wo_ite, wr_ite, wr_lift, wr_tru, someEx, List.length_cons, List.length_nil, List.getElem?_cons_zero, List.getElem?_cons_succ, List.set_cons_zero, List.set_cons_succ, ix_lst, Nat.zero_add, Nat.reduceAdd, slB, isNon, D.isStr, if_true, evSl, evCs, tg_n, tg_t2, tg_t3, tg_t4, Tg.slots, Tg.slotss, wipeE, wr_noexc, Option.map_some, Option.bind_some, reduceIte]
      obtain ⟨y, ey, my⟩ := atI_in (xs := ([.int (1 + x1), .int 480, .int (1 + x2), .int 1440] : List D)) c0 (by simpa using c1)
      refine ⟨y, ey, h3.up (by omega), ?_⟩
      simp only [List.mem_cons, List.not_mem_nil, or_false] at my
      rcases my with rfl | rfl | rfl | rfl <;> exact ⟨_, rfl, by omega, by omega⟩
    · rw [List.length_map, List.length_range] at h2 rl
      obtain ⟨da, eda, lda, pda⟩ := ints_of rl rp
      subst eda
      have h2 : StB cells (b + 21) S2 := h2.up (by omega)
      rw [wo_cons]
      simp only [evS, evE, evEs, evAn, evOr, wo_outs, wo_nx, wo_rt, wr_bind, wr_ok, wo_ite, wr_ite, wr_lift, wr_tru, someEx, List.length_cons, List.length_nil, List.getElem?_cons_zero, List.getElem?_cons_succ, List.set_cons_zero, List.set_cons_succ, ix_lst, Nat.zero_add, Nat.reduceAdd, slB, isNon, D.isStr, if_true, evSl, evCs, tg_n, tg_t2, tg_t3, tg_t4, Tg.slots, Tg.slotss, wipeE, wr_noexc, Option.map_some, Option.bind_some, reduceIte]
      rw [wo_cons]
      simp only [evS, evIt, evS, evE, evEs, evAn, evOr, wo_outs, wo_nx, wo_rt, wr_bind, wr_ok, wo_ite, wr_ite, wr_lift, wr_tru, someEx, List.length_cons, List.length_nil, List.getElem?_cons_zero, List.getElem?_cons_succ, List.set_cons_zero, List.set_cons_succ, ix_lst, Nat.zero_add, Nat.reduceAdd, slB, isNon, D.isStr, if_true, evSl, evCs, tg_n, tg_t2, tg_t3, tg_t4, Tg.slots, Tg.slotss, wipeE, wr_noexc, Option.map_some, Option.bind_some, reduceIte, ixt, p2, items_lst, rng1 (show (0 : Int) ≤ 3 by decide) (show (3 : Int) ≤ 16777216 by decide)]
      refine wo_for (I := fun i env S => StB cells (b + 21 + 3 * i) S ∧ ∃ (we : List Int) (x : Option D), env = [some (.obj 0), some (.tup [.int 4, .int 3, .int 3]), some (.lst (cl.map .int)), some (.lst (da.map .int)), some (.lst (we.map .int)), x] ∧ we.length = i ∧ ∀ x ∈ we, 1 ≤ x ∧ x ≤ 10080) (k := 0) ⟨h2.up (by omega), [], none, rfl, rfl, fun x hx => nomatch hx⟩ (fun i d env S hd ⟨hi, we, x, ee, lw, pw⟩ => ?_) fun env S ⟨hi, we, x, ee, lw, pw⟩ => ?_
      · obtain ⟨rfl, lt⟩ := range_get hd
        have lt : i < 3 := lt
        subst ee
        simp only [evS, evE, evEs, evAn, evOr, wo_outs, wo_nx, wo_rt, wr_bind, wr_ok, wo_ite, wr_ite, wr_lift, wr_tru, someEx, List.length_cons, List.length_nil, List.getElem?_cons_zero, List.getElem?_cons_succ, List.set_cons_zero, List.set_cons_succ, ix_lst, Nat.zero_add, Nat.reduceAdd, slB, isNon, D.isStr, if_true, evSl, evCs, tg_n, tg_t2, tg_t3, tg_t4, Tg.slots, Tg.slotss, wipeE, wr_noexc, Option.map_some, Option.bind_some, reduceIte]
        rw [wo_cons]
        simp only [evS, evE, evEs, evAn, evOr, wo_outs, wo_nx, wo_rt, wr_bind, wr_ok, wo_ite, wr_ite, wr_lift, wr_tru, someEx, List.length_cons, List.length_nil, List.getElem?_cons_zero, List.getElem?_cons_succ, List.set_cons_zero, List.set_cons_succ, ix_lst, Nat.zero_add, Nat.reduceAdd, slB, isNon, D.isStr, if_true, evSl, evCs, tg_n, tg_t2, tg_t3, tg_t4, Tg.slots, Tg.slotss, wipeE, wr_noexc, Option.map_some, Option.bind_some, reduceIte]
        refine wr_mono (dr _ S 6 hi (by omega) (by decide) (by decide)) fun d1 S1 ⟨x1, e1, a0, a1, h1⟩ => ?_
        subst e1
        simp only [evS, evE, evEs, evAn, evOr, wo_outs, wo_nx, wo_rt, wr_bind, wr_ok, wo_ite, wr_ite, wr_lift, wr_tru, someEx, List.length_cons, List.length_nil, List.getElem?_cons_zero, List.getElem?_cons_succ, List.set_cons_zero, List.set_cons_succ, ix_lst, Nat.zero_add, Nat.reduceAdd, slB, isNon, D.isStr, if_true, evSl, evCs, tg_n, tg_t2, tg_t3, tg_t4, Tg.slots, Tg.slotss, wipeE, wr_noexc, Option.map_some, Option.bind_some, reduceIte, add_int]
        refine wr_mono (dr _ S1 10080 h1 (by omega) (by decide) (by decide)) fun d2 S2 ⟨x2, e2, b0, b1, h2⟩ => ?_
        subst e2
        simp only [evS, evE, evEs, evAn, evOr, wo_outs, wo_nx, wo_rt, wr_bind, wr_ok, wo_ite, wr_ite, wr_lift, wr_tru, someEx, List.length_cons, List.length_nil, List.getElem?_cons_zero, List.getElem?_cons_succ, List.set_cons_zero, List.set_cons_succ, ix_lst, Nat.zero_add, Nat.reduceAdd, slB, isNon, D.isStr, if_true, evSl, evCs, tg_n, tg_t2, tg_t3, tg_t4, Tg.slots, Tg.slotss, wipeE, wr_noexc, Option.map_some, Option.bind_some, reduceIte, add_int]
        refine wr_mono (dr _ S2 4 h2 (by omega) (by decide) (by decide)) fun d3 S3 ⟨x3, e3, c0, c1, h3⟩ => ?_
        subst e3
        simp only [evS, evE, evEs, evAn, evOr, wo_outs, wo_nx, wo_rt, wr_bind, wr_ok, wo_ite, wr_ite, wr_lift, wr_tru, someEx, List.length_cons, List.length_nil, List.getElem?_cons_zero, List.getElem?_cons_succ, List.set_cons_zero, List.set_cons_succ, ix_lst, Nat.zero_add, Nat.reduceAdd, slB, isNon, D.isStr, if_true, evSl, evCs, tg_n, tg_t2, tg_t3, tg_t4, Tg.slots, Tg.slotss, wipeE, wr_noexc, Option.map_some, Option.bind_some, reduceIte]
        obtain ⟨y, ey, my⟩ := atI_in (xs := ([.int (1 + x1), .int 1441, .int (1 + x2), .int 2400] : List D)) c0 (by simpa using c1)
        have hy : ∃ z : Int, y = .int z ∧ 1 ≤ z ∧ z ≤ 10080 := by
          simp only [List.mem_cons, List.not_mem_nil, or_false] at my
          rcases my with rfl | rfl | rfl | rfl <;> exact ⟨_, rfl, by omega, by omega⟩
        obtain ⟨z, rfl, z0, z1⟩ := hy
        refine ⟨_, ey, ?_⟩
        rw [if_pos (by rw [List.length_map, sizeLine_eq]; omega)]
        refine ⟨h3.up (by omega), we ++ [z], _, by rw [List.map_append]; rfl, by simp [lw], fun x hx => ?_⟩
        rcases List.mem_append.mp hx with hx | hx
        · exact pw x hx
        · have : x = z := by simpa using hx
          subst this
          exact ⟨z0, z1⟩
      · subst ee
        rw [List.length_map, List.length_range] at hi lw
        rw [wo_cons]
        simp only [evS, evE, evEs, evAn, evOr, wo_outs, wo_nx, wo_rt, wr_bind, wr_ok, wo_ite, wr_ite, wr_lift, wr_tru, someEx, List.length_cons, List.length_nil, List.getElem?_cons_zero, List.getElem?_cons_succ, List.set_cons_zero, List.set_cons_succ, ix_lst, Nat.zero_add, Nat.reduceAdd, slB, isNon, D.isStr, if_true, evSl, evCs, tg_n, tg_t2, tg_t3, tg_t4, Tg.slots, Tg.slotss, wipeE, wr_noexc, Option.map_some, Option.bind_some, reduceIte]
        rw [wo_cons]
        simp only [evS, evE, evEs, evAn, evOr, wo_outs, wo_nx, wo_rt, wr_bind, wr_ok, wo_ite, wr_ite, wr_lift, wr_tru, someEx, List.length_cons, List.length_nil, List.getElem?_cons_zero, List.getElem?_cons_succ, List.set_cons_zero, List.set_cons_succ, ix_lst, Nat.zero_add, Nat.reduceAdd, slB, isNon, D.isStr, if_true, evSl, evCs, tg_n, tg_t2, tg_t3, tg_t4, Tg.slots, Tg.slotss, wipeE, wr_noexc, Option.map_some, Option.bind_some, reduceIte]
        exact ⟨⟨cl, da, we, rfl, lcl, lda, by simpa using lw, pcl, pda, pw⟩, hi.up (by omega)⟩
theorem pools_ok {P : Prog} {n kn kd : Nat} {cells : List Int} {b : Int} {S : Sto} (hn : P.fns[kn]? = some (poolsF kd)) (hd : P.fns[kd]? = some drawF) (h : StB cells b S) (hb : b + 40 ≤ 2 ^ 60) : Wr (run P (n + 2) kn [.obj 0, .tup [.int 4, .int 3, .int 3]] S) fun d S => PoolsOk d ∧ StB cells (b + 40) S :=
  wr_run hn rfl (wo_mono (pools_body (draw_ok hd) h hb (N := fun _ _ => False)) (fun _ _ z => z.elim) fun _ _ z => z)
end VE

set_option Elab.async false
set_option linter.all false
set_option maxRecDepth 100000
set_option maxHeartbeats 4000000
/-! VL, part 4: conditions, rules. -/
namespace VE
open PySem PySem.Spec PyProof.Rows L2

/-- a condition -/
inductive Cn where
  | feast | days (ns : List Int) | clock (a b : Int) | num (w : Str) (n : Int)
def Cn.word : Cn → Str
  | .feast => "feast"
  | .days _ => "days"
  | .clock _ _ => "clock"
  | .num w _ => w
def Cn.d : Cn → D
  | .feast => .tup [.str "feast"]
  | .days ns => .tup [.str "days", .tup (ns.map .int)]
  | .clock a b => .tup [.str "clock", .int a, .int b]
  | .num w n => .tup [.str w, .int n]
def Cn.Ok : Cn → Prop
  | .feast => True
  | .days ns => ns ≠ [] ∧ ns.length ≤ 7 ∧ ns.Pairwise (· < ·) ∧ ∀ x ∈ ns, 0 ≤ x ∧ x ≤ 6
  | .clock a b => 0 ≤ a ∧ a < 1440 ∧ 0 ≤ b ∧ b < 1440 ∧ a ≠ b
  | .num w n => (w = "day" ∧ 1 ≤ n ∧ n ≤ 1440) ∨ (w = "week" ∧ 1 ≤ n ∧ n ≤ 10080)
def condF (kd kp : Nat) : Fn := ⟨3, 7, true, [
  .iff (.cmp .eq (.v 2) (.str "feast")) [.ret (.tup [.str "feast"])] [],
  .iff (.cmp .eq (.v 2) (.str "days")) [.asg 3 (.bin .add (.int 1) (.call kd [.v 0, .int 127])), .ret (.tup [.str "days", .bi .tuple [.comp (.v 6) (.n 6) (.rng [.int 7]) [.cmp .eq (.bin .band (.bin .shr (.v 3) (.v 6)) (.int 1)) (.int 1)]]])] [],
  .iff (.cmp .eq (.v 2) (.str "clock")) [.par [4, 5] [.call kp [.v 0, .ix (.v 1) (.int 0)], .call kp [.v 0, .ix (.v 1) (.int 0)]], .ret (.tup [.str "clock", .v 4, .ix (.lst [.v 5, .bin .mod (.bin .add (.v 4) (.int 1)) (.int 1440)]) (.bi .int [.cmp .eq (.v 4) (.v 5)])])] [],
  .ret (.tup [.v 2, .call kp [.v 0, .ix (.v 1) (.bin .add (.int 1) (.bi .int [.cmp .eq (.v 2) (.str "week")]))]])]⟩
/-- a comprehension that changes nothing -/
theorem compL_pure {f : D → Sto → Res (Option D)} {S : Sto} {g : D → Option D} : ∀ {ds : List D}, (∀ d ∈ ds, f d S = .ok (g d) S) → compL f ds S = .ok (ds.filterMap g) S
  | [], _ => rfl
  | d :: ds, h => by
    unfold compL
    rw [h d List.mem_cons_self, Res.ok_bind, compL_pure fun x hx => h x (List.mem_cons_of_mem _ hx), Res.ok_bind, List.filterMap_cons]
    cases g d <;> rfl
def bitsOn (bits : Int) (k : Nat) : Bool := Builtin.bitAnd (bits / 2 ^ k) 1 == 1
def daysOf (bits : Int) : List Int := ((List.range 7).filter fun k => bitsOn bits k).map fun k => ((k : Nat) : Int)
theorem days_ok : ∀ n : Nat, n < 127 → (daysOf (1 + (n : Int)) ≠ [] ∧ (daysOf (1 + (n : Int))).length ≤ 7 ∧ (daysOf (1 + (n : Int))).Pairwise (· < ·) ∧ ∀ x ∈ daysOf (1 + (n : Int)), 0 ≤ x ∧ x ≤ 6) := by decide +kernel
theorem filt_map (q : Nat → Bool) : ∀ l : List Nat, ((l.map fun k => D.int ((k : Nat) : Int)).filterMap fun d => match d with
    | .int i => if q i.toNat then some d else none
    | _ => none) = ((l.filter q).map fun k => ((k : Nat) : Int)).map D.int
  | [] => rfl
  | k :: l => by
    rw [List.map_cons, List.filterMap_cons, List.filter_cons, filt_map q l]
    dsimp only
    rw [Int.toNat_natCast]
    cases q k <;> rfl
theorem evIntB (b : Bool) : evBi .int [.bl b] = some (.int (if b then 1 else 0)) := rfl
theorem evTupL (xs : List D) : evBi .tuple [.lst xs] = some (.tup xs) := rfl
theorem par2 (i j : Nat) (x y : D) (env : Env) : Tg.sets ([i, j].map .n) [x, y] env = some ((env.set i (some x)).set j (some y)) := rfl
theorem cond_body {gl : List D} {rc : Nat → List D → Sto → Res D} {kd kp : Nat} {cells : List Int} {b : Int} {S : Sto} {pools : D} {w : Str} (dr : DrawOk rc kd cells) (pk : PickOk rc kp cells) (h : StB cells b S) (hb : b + 2 ≤ 2 ^ 60) (hp : PoolsOk pools)
    (hw : w = "clock" ∨ w = "days" ∨ w = "feast" ∨ w = "day" ∨ w = "week") {N : Env → Sto → Prop} :
    Wo (evSs gl rc (condF kd kp).body (startE (condF kd kp).nl [.obj 0, pools, .str w]) S) N fun d S => (∃ c : Cn, d = c.d ∧ c.Ok ∧ c.word = w) ∧ StB cells (b + 2) S := by
  obtain ⟨cl, da, we, rfl, lcl, lda, lwe, pcl, pda, pwe⟩ := hp
  show Wo (evSs gl rc (condF kd kp).body [some (.obj 0), some (.lst [.lst (cl.map .int), .lst (da.map .int), .lst (we.map .int)]), some (.str w), none, none, none, none] S) N _
  unfold condF
  dsimp only
  have x0 : atI ([.lst (cl.map .int), .lst (da.map .int), .lst (we.map .int)] : List D) 0 = some (.lst (cl.map .int)) := rfl
  have x1 : atI ([.lst (cl.map .int), .lst (da.map .int), .lst (we.map .int)] : List D) 1 = some (.lst (da.map .int)) := rfl
  have x2 : atI ([.lst (cl.map .int), .lst (da.map .int), .lst (we.map .int)] : List D) 2 = some (.lst (we.map .int)) := rfl
  have nz : ∀ {l : List Int} {n : Nat}, l.length = n + 1 → l.map D.int ≠ [] := fun {l n} e z => by
    have := congrArg List.length z
    rw [List.length_map, e] at this
    cases this
  rw [wo_cons]
  simp only [evS, evE, evEs, evAn, evOr, wo_outs, wo_nx, wo_rt, wr_bind, wr_ok, wo_ite, wr_ite, wr_lift, wr_tru, someEx, List.length_cons, List.length_nil, List.getElem?_cons_zero, List.getElem?_cons_succ, List.set_cons_zero, List.set_cons_succ, ix_lst, Nat.zero_add, Nat.reduceAdd, slB, isNon, D.isStr, if_true, evSl, evCs, tg_n, tg_t2, tg_t3, tg_t4, Tg.slots, Tg.slotss, wipeE, wr_noexc, Option.map_some, Option.bind_some, reduceIte, eq_str]
  by_cases c1 : (w == "feast") = true
  · rw [if_pos c1]
    rw [wo_cons]
    simp only [evS, evE, evEs, evAn, evOr, wo_outs, wo_nx, wo_rt, wr_bind, wr_ok, wo_ite, wr_ite, wr_lift, wr_tru, someEx, List.length_cons, List.length_nil, List.getElem?_cons_zero, List.getElem?_cons_succ, List.set_cons_zero, List.set_cons_succ, ix_lst, Nat.zero_add, Nat.reduceAdd, slB, isNon, D.isStr, if_true, evSl, evCs, tg_n, tg_t2, tg_t3, tg_t4, Tg.slots, Tg.slotss, wipeE, wr_noexc, Option.map_some, Option.bind_some, reduceIte]
    exact ⟨⟨.feast, rfl, trivial, (eq_of_beq c1).symm⟩, h.up (by omega)⟩
  · rw [if_neg c1]
    simp only [wo_nil]
    rw [wo_cons]
    simp only [evS, evE, evEs, evAn, evOr, wo_outs, wo_nx, wo_rt, wr_bind, wr_ok, wo_ite, wr_ite, wr_lift, wr_tru, someEx, List.length_cons, List.length_nil, List.getElem?_cons_zero, List.getElem?_cons_succ, List.set_cons_zero, List.set_cons_succ, ix_lst, Nat.zero_add, Nat.reduceAdd, slB, isNon, D.isStr, if_true, evSl, evCs, tg_n, tg_t2, tg_t3, tg_t4, Tg.slots, Tg.slotss, wipeE, wr_noexc, Option.map_some, Option.bind_some, reduceIte, eq_str]
    by_cases c2 : (w == "days") = true
    · rw [if_pos c2]
      rw [wo_cons]
      simp only [evS, evE, evEs, evAn, evOr, wo_outs, wo_nx, wo_rt, wr_bind, wr_ok, wo_ite, wr_ite, wr_lift, wr_tru, someEx, List.length_cons, List.length_nil, List.getElem?_cons_zero, List.getElem?_cons_succ, List.set_cons_zero, List.set_cons_succ, ix_lst, Nat.zero_add, Nat.reduceAdd, slB, isNon, D.isStr, if_true, evSl, evCs, tg_n, tg_t2, tg_t3, tg_t4, Tg.slots, Tg.slotss, wipeE, wr_noexc, Option.map_some, Option.bind_some, reduceIte]
      refine wr_mono (dr _ S 127 h (by omega) (by decide) (by decide)) fun d1 S1 ⟨r, e1, r0, r1, h1⟩ => ?_
      subst e1
      simp only [evS, evE, evEs, evAn, evOr, wo_outs, wo_nx, wo_rt, wr_bind, wr_ok, wo_ite, wr_ite, wr_lift, wr_tru, someEx, List.length_cons, List.length_nil, List.getElem?_cons_zero, List.getElem?_cons_succ, List.set_cons_zero, List.set_cons_succ, ix_lst, Nat.zero_add, Nat.reduceAdd, slB, isNon, D.isStr, if_true, evSl, evCs, tg_n, tg_t2, tg_t3, tg_t4, Tg.slots, Tg.slotss, wipeE, wr_noexc, Option.map_some, Option.bind_some, reduceIte, add_int]
      rw [wo_cons]
      simp only [evS, evE, evEs, evAn, evOr, wo_outs, wo_nx, wo_rt, wr_bind, wr_ok, wo_ite, wr_ite, wr_lift, wr_tru, someEx, List.length_cons, List.length_nil, List.getElem?_cons_zero, List.getElem?_cons_succ, List.set_cons_zero, List.set_cons_succ, ix_lst, Nat.zero_add, Nat.reduceAdd, slB, isNon, D.isStr, if_true, evSl, evCs, tg_n, tg_t2, tg_t3, tg_t4, Tg.slots, Tg.slotss, wipeE, wr_noexc, Option.map_some, Option.bind_some, reduceIte, items_lst, rng1 (show (0 : Int) ≤ 7 by decide) (show (7 : Int) ≤ 16777216 by decide)]
      rw [compL_pure (g := fun d => match d with
        | .int i => if bitsOn (1 + r) i.toNat then some d else none
        | _ => none) (fun d hd => ?_)]
      · have e7 : (7 : Int).toNat = 7 := rfl
        rw [e7, filt_map]
        simp only [evS, evE, evEs, evAn, evOr, wo_outs, wo_nx, wo_rt, wr_bind, wr_ok, wo_ite, wr_ite, wr_lift, wr_tru, someEx, List.length_cons, List.length_nil, List.getElem?_cons_zero, List.getElem?_cons_succ, List.set_cons_zero, List.set_cons_succ, ix_lst, Nat.zero_add, Nat.reduceAdd, slB, isNon, D.isStr, if_true, evSl, evCs, tg_n, tg_t2, tg_t3, tg_t4, Tg.slots, Tg.slotss, wipeE, wr_noexc, Option.map_some, Option.bind_some, reduceIte, evTupL]
        have nr : r.toNat < 127 := by omega
        have er : 1 + ((r.toNat : Nat) : Int) = 1 + r := by omega
        have dok := days_ok r.toNat nr
        rw [er] at dok
        exact ⟨⟨.days (daysOf (1 + r)), rfl, dok, (eq_of_beq c2).symm⟩, h1.up (by omega)⟩
      · obtain ⟨k, _, rfl⟩ := List.mem_map.mp hd
        have sh : evBin .shr (.int (1 + r)) (.int (k : Nat)) = some (.int ((1 + r) / 2 ^ k)) := by
          show (if (0 : Int) ≤ ((k : Nat) : Int) then some (D.int ((1 + r) / 2 ^ ((k : Nat) : Int).toNat)) else none) = _
          rw [if_pos (by omega), Int.toNat_natCast]
        have an : ∀ i j : Int, evBin .band (.int i) (.int j) = some (.int (Builtin.bitAnd i j)) := fun _ _ => rfl
        simp only [tg_n, Tg.slots, wipeE, List.set_cons_succ, List.set_cons_zero, evCs, evE, List.getElem?_cons_succ, List.getElem?_cons_zero, Res.ok_bind, sh, an, lift_some, eq_int, tru, D.tru, Int.toNat_natCast]
        show Res.noexc _ = _
        by_cases q : bitsOn (1 + r) k = true
        · have q2 : (Builtin.bitAnd ((1 + r) / 2 ^ k) 1 == 1) = true := q
          rw [if_pos q]
          simp only [q2, lift_some, Res.ok_bind, if_true, Res.ok_noexc]
        · have q2 : (Builtin.bitAnd ((1 + r) / 2 ^ k) 1 == 1) = false := Bool.eq_false_iff.mpr q
          rw [if_neg q]
          simp only [q2, lift_some, Res.ok_bind, Bool.false_eq_true, if_false, Res.ok_noexc]
    · rw [if_neg c2]
      simp only [wo_nil]
      rw [wo_cons]
      simp only [evS, evE, evEs, evAn, evOr, wo_outs, wo_nx, wo_rt, wr_bind, wr_ok, wo_ite, wr_ite, wr_lift, wr_tru, someEx, List.length_cons, List.length_nil, List.getElem?_cons_zero, List.getElem?_cons_succ, List.set_cons_zero, List.set_cons_succ, ix_lst, Nat.zero_add, Nat.reduceAdd, slB, isNon, D.isStr, if_true, evSl, evCs, tg_n, tg_t2, tg_t3, tg_t4, Tg.slots, Tg.slotss, wipeE, wr_noexc, Option.map_some, Option.bind_some, reduceIte, eq_str]
      by_cases c3 : (w == "clock") = true
      · rw [if_pos c3]
        rw [wo_cons]
        simp only [evS, evE, evEs, evAn, evOr, wo_outs, wo_nx, wo_rt, wr_bind, wr_ok, wo_ite, wr_ite, wr_lift, wr_tru, someEx, List.length_cons, List.length_nil, List.getElem?_cons_zero, List.getElem?_cons_succ, List.set_cons_zero, List.set_cons_succ, ix_lst, Nat.zero_add, Nat.reduceAdd, slB, isNon, D.isStr, if_true, evSl, evCs, tg_n, tg_t2, tg_t3, tg_t4, Tg.slots, Tg.slotss, wipeE, wr_noexc, Option.map_some, Option.bind_some, reduceIte, x0]
        refine wr_mono (pk _ S _ h (by omega) (nz lcl) (by rw [List.length_map]; omega)) fun d1 S1 ⟨m1, h1⟩ => ?_
        obtain ⟨a, ma, rfl⟩ := List.mem_map.mp m1
        refine wr_mono (pk _ S1 _ h1 (by omega) (nz lcl) (by rw [List.length_map]; omega)) fun d2 S2 ⟨m2, h2⟩ => ?_
        obtain ⟨c, mc, rfl⟩ := List.mem_map.mp m2
        simp only [evS, evE, evEs, evAn, evOr, wo_outs, wo_nx, wo_rt, wr_bind, wr_ok, wo_ite, wr_ite, wr_lift, wr_tru, someEx, List.length_cons, List.length_nil, List.getElem?_cons_zero, List.getElem?_cons_succ, List.set_cons_zero, List.set_cons_succ, ix_lst, Nat.zero_add, Nat.reduceAdd, slB, isNon, D.isStr, if_true, evSl, evCs, tg_n, tg_t2, tg_t3, tg_t4, Tg.slots, Tg.slotss, wipeE, wr_noexc, Option.map_some, Option.bind_some, reduceIte, par2]
        rw [wo_cons]
        have m14 : evBin .mod (.int (a + 1)) (.int 1440) = some (.int ((a + 1) % 1440)) := mod_int (by decide)
        simp only [evS, evE, evEs, evAn, evOr, wo_outs, wo_nx, wo_rt, wr_bind, wr_ok, wo_ite, wr_ite, wr_lift, wr_tru, someEx, List.length_cons, List.length_nil, List.getElem?_cons_zero, List.getElem?_cons_succ, List.set_cons_zero, List.set_cons_succ, ix_lst, Nat.zero_add, Nat.reduceAdd, slB, isNon, D.isStr, if_true, evSl, evCs, tg_n, tg_t2, tg_t3, tg_t4, Tg.slots, Tg.slotss, wipeE, wr_noexc, Option.map_some, Option.bind_some, reduceIte, add_int, m14, eq_int, evIntB]
        obtain ⟨a0, a1⟩ := pcl a ma
        obtain ⟨b0, b1⟩ := pcl c mc
        by_cases eac : (a == c) = true
        · rw [if_pos eac]
          have at1 : atI ([.int c, .int ((a + 1) % 1440)] : List D) 1 = some (.int ((a + 1) % 1440)) := rfl
          rw [at1]
          have z0 := Int.emod_nonneg (a + 1) (b := 1440) (by decide)
          have z1 := Int.emod_lt_of_pos (a + 1) (b := 1440) (by decide)
          exact ⟨_, rfl, ⟨.clock a ((a + 1) % 1440), rfl, ⟨a0, a1, z0, z1, by omega⟩, (eq_of_beq c3).symm⟩, h2.up (by omega)⟩
        · rw [if_neg eac]
          have at0 : atI ([.int c, .int ((a + 1) % 1440)] : List D) 0 = some (.int c) := rfl
          rw [at0]
          exact ⟨_, rfl, ⟨.clock a c, rfl, ⟨a0, a1, b0, b1, fun z => eac (by rw [z]; exact beq_self_eq_true c)⟩, (eq_of_beq c3).symm⟩, h2.up (by omega)⟩
      · rw [if_neg c3]
        simp only [wo_nil]
        rw [wo_cons]
        simp only [evS, evE, evEs, evAn, evOr, wo_outs, wo_nx, wo_rt, wr_bind, wr_ok, wo_ite, wr_ite, wr_lift, wr_tru, someEx, List.length_cons, List.length_nil, List.getElem?_cons_zero, List.getElem?_cons_succ, List.set_cons_zero, List.set_cons_succ, ix_lst, Nat.zero_add, Nat.reduceAdd, slB, isNon, D.isStr, if_true, evSl, evCs, tg_n, tg_t2, tg_t3, tg_t4, Tg.slots, Tg.slotss, wipeE, wr_noexc, Option.map_some, Option.bind_some, reduceIte, eq_str, evIntB, add_int]
        by_cases c4 : (w == "week") = true
        · rw [if_pos c4]
          have e2 : atI ([.lst (cl.map .int), .lst (da.map .int), .lst (we.map .int)] : List D) (1 + 1) = some (.lst (we.map .int)) := rfl
          rw [e2]
          refine ⟨_, rfl, ?_⟩
          refine wr_mono (pk _ S _ h (by omega) (nz lwe) (by rw [List.length_map]; omega)) fun d1 S1 ⟨m1, h1⟩ => ?_
          obtain ⟨a, ma, rfl⟩ := List.mem_map.mp m1
          have := pwe a ma
          exact ⟨⟨.num w a, rfl, .inr ⟨eq_of_beq c4, this.1, this.2⟩, rfl⟩, h1.up (by omega)⟩
        · rw [if_neg c4]
          have e2 : atI ([.lst (cl.map .int), .lst (da.map .int), .lst (we.map .int)] : List D) (1 + 0) = some (.lst (da.map .int)) := rfl
          rw [e2]
          refine ⟨_, rfl, ?_⟩
          refine wr_mono (pk _ S _ h (by omega) (nz lda) (by rw [List.length_map]; omega)) fun d1 S1 ⟨m1, h1⟩ => ?_
          obtain ⟨a, ma, rfl⟩ := List.mem_map.mp m1
          have := pda a ma
          have ew : w = "day" := by
            rcases hw with e | e | e | e | e
            · exact absurd (by rw [e]; rfl) c3
            · exact absurd (by rw [e]; rfl) c2
            · exact absurd (by rw [e]; rfl) c1
            · exact e
            · exact absurd (by rw [e]; rfl) c4
          exact ⟨⟨.num w a, rfl, .inl ⟨ew, this.1, this.2⟩, rfl⟩, h1.up (by omega)⟩
end VE

set_option Elab.async false
set_option linter.all false
set_option maxRecDepth 100000
set_option maxHeartbeats 4000000
/-! VL, part 5: rules. -/
namespace VE
open PySem PySem.Spec PyProof.Rows L2

/-- a comprehension with a test: of which items the results are -/
theorem wr_filterS {f : D → Sto → Res (Option D)} {I : Nat → Sto → Prop} {P : D → D → Prop} : ∀ {ds : List D} {k : Nat} {S : Sto} {Q : List D → Sto → Prop}, I k S →
    (∀ i d S, ds[i]? = some d → I (k + i) S → Wr (f d S) fun o S => I (k + i + 1) S ∧ ∀ y, o = some y → P d y) →
    (∀ (r : List D) S (sub : List D), I (k + ds.length) S → sub.Sublist ds → sub.length = r.length → (∀ (i : Nat) d y, sub[i]? = some d → r[i]? = some y → P d y) → Q r S) → Wr (compL f ds S) Q
  | [], k, S, Q, h0, _, hq => hq [] S [] h0 (List.Sublist.refl _) rfl fun i d y h => by simp at h
  | d :: ds, k, S, Q, h0, hf, hq => by
    unfold compL
    rw [wr_bind]
    refine wr_mono (hf 0 d S rfl h0) fun o S1 ⟨h1, hp⟩ => ?_
    rw [wr_bind]
    refine wr_filterS (I := I) (P := P) (k := k + 1) (by simpa using h1) (fun i d' S hd hi => ?_) fun r S2 sub hi hs hl hr => ?_
    · have e : k + 1 + i = k + (i + 1) := by omega
      rw [e] at hi
      have := hf (i + 1) d' S (by simpa using hd) hi
      rw [e]
      exact this
    · rw [wr_ok]
      have hi' : I (k + (d :: ds).length) S2 := by
        rw [List.length_cons]
        have e : k + 1 + ds.length = k + (ds.length + 1) := by omega
        rw [e] at hi
        exact hi
      cases o with
      | none => exact hq r S2 sub hi' (hs.cons d) hl hr
      | some y =>
        refine hq (y :: r) S2 (d :: sub) hi' (hs.cons₂ d) (by simp [hl]) fun i d' y' h1 h2 => ?_
        cases i with
        | zero =>
          cases h1
          cases h2
          exact hp _ rfl
        | succ i => exact hr i d' y' (by simpa using h1) (by simpa using h2)
theorem uncn : ∀ {sub own : List D}, sub.length = own.length → (∀ (i : Nat) d y, sub[i]? = some d → own[i]? = some y → ∃ w c, d = D.str w ∧ y = Cn.d c ∧ c.Ok ∧ c.word = w) → ∃ cs : List Cn, own = cs.map Cn.d ∧ sub = (cs.map Cn.word).map D.str ∧ ∀ c ∈ cs, c.Ok
  | [], [], _, _ => ⟨[], rfl, rfl, fun c h => nomatch h⟩
  | d :: sub, y :: own, hl, h => by
    obtain ⟨cs, e1, e2, e3⟩ := uncn (sub := sub) (own := own) (by simpa using hl) fun i d y h1 h2 => h (i + 1) d y (by simpa using h1) (by simpa using h2)
    obtain ⟨w, c, rfl, rfl, co, cw⟩ := h 0 d y rfl rfl
    subst cw
    refine ⟨c :: cs, by rw [e1, List.map_cons], by rw [e2, List.map_cons, List.map_cons], fun x hx => ?_⟩
    rcases List.mem_cons.mp hx with r | r
    · rw [r]
      exact co
    · exact e3 x r
  | [], _ :: _, hl, _ => nomatch hl
  | _ :: _, [], hl, _ => nomatch hl
theorem nodup_str {ws : List Str} : (ws.map D.str).Nodup ↔ ws.Nodup := by
  unfold List.Nodup
  rw [List.pairwise_map]
  exact ⟨fun h => h.imp fun x y => x (congrArg D.str y), fun h => h.imp fun x y => x (by cases y; rfl)⟩
structure Rl where
  name : Str
  rank : Int
  sort : Str
  cs : List Cn
def Rl.d (r : Rl) : D := .tup [.str r.name, .int r.rank, .str r.sort, .tup (r.cs.map Cn.d)]
def Rl.Ok (r : Rl) : Prop := 0 ≤ r.rank ∧ r.rank ≤ 99 ∧ (∀ c ∈ r.cs, c.Ok) ∧ (r.cs.map Cn.word).Nodup ∧ r.cs.length ≤ 5
def words9 : List Str := ["clock", "days", "feast", "day", "week", "clock", "days", "feast", "day"]
theorem window : ∀ t : Nat, t < 5 → ((words9.drop t).take 5).Nodup ∧ ((words9.drop t).take 5).length = 5 ∧ ∀ w ∈ (words9.drop t).take 5, w = "clock" ∨ w = "days" ∨ w = "feast" ∨ w = "day" ∨ w = "week" := by decide +kernel
def rulesF (kd kp kc : Nat) : Fn := ⟨5, 14, true, [
  .par [6, 7] [.call kd [.v 0, .int 5], .lst []],
  .forr (.n 5) (.rng [.call kd [.v 0, .bin .add (.v 4) (.int 1)]]) [.asgT (.t [.n 11, .n 12]) (.tup [.call kd [.v 0, .int 5], .bin .add (.int 1) (.call kd [.v 0, .int 3])]), .asg 8 (.sl (.lst [.str "clock", .str "days", .str "feast", .str "day", .str "week", .str "clock", .str "days", .str "feast", .str "day"]) (.v 11) (.bin .add (.v 11) (.int 5))), .frz [8], .asg 9 (.comp (.call kc [.v 0, .v 1, .v 13]) (.n 13) (.v 8) [.cmp .lt (.call kd [.v 0, .int 6]) (.v 12)]), .asg 10 (.ix (.lst [.bin .mul (.int 9) (.v 5), .bin .sub (.int 50) (.v 5), .call kd [.v 0, .int 2], .bin .mul (.int 99) (.call kd [.v 0, .int 2]), .call kd [.v 0, .int 100]]) (.v 6)), .app 7 (.tup [.ix (.v 2) (.v 5), .v 10, .call kp [.v 0, .v 3], .bi .tuple [.v 9]]), .frz [9]],
  .ret (.bi .tuple [.v 7])]⟩
def CondOk (rc : Nat → List D → Sto → Res D) (kc : Nat) (cells : List Int) : Prop := ∀ (b : Int) (S : Sto) (pools : D) (w : Str), StB cells b S → b + 2 ≤ 2 ^ 60 → PoolsOk pools → (w = "clock" ∨ w = "days" ∨ w = "feast" ∨ w = "day" ∨ w = "week") →
  Wr (rc kc [.obj 0, pools, .str w] S) fun d S => (∃ c : Cn, d = c.d ∧ c.Ok ∧ c.word = w) ∧ StB cells (b + 2) S
theorem cond_ok {P : Prog} {n kc kd kp : Nat} {cells : List Int} (hc : P.fns[kc]? = some (condF kd kp)) (hp : P.fns[kp]? = some (pickF kd)) (hd : P.fns[kd]? = some drawF) : CondOk (run P (n + 3)) kc cells := fun b S pools w h hb po hw =>
  wr_run hc rfl (wo_mono (cond_body (draw_ok hd) (pick_ok hp hd) h hb po hw (N := fun _ _ => False)) (fun _ _ z => z.elim) fun _ _ z => z)
/-- the rules told -/
def RulesOk (names sorts : List Str) (rs : List Rl) : Prop := rs.length ≤ 8 ∧ (∀ (i : Nat) (r : Rl), rs[i]? = some r → names[i]? = some r.name) ∧ ∀ r ∈ rs, r.Ok ∧ r.sort ∈ sorts
theorem rules_body {gl : List D} {rc : Nat → List D → Sto → Res D} {kd kp kc : Nat} {cells : List Int} {b : Int} {S : Sto} {pools : D} {names sorts : List Str} (dr : DrawOk rc kd cells) (pk : PickOk rc kp cells) (cn : CondOk rc kc cells) (h : StB cells b S) (hb : b + 300 ≤ 2 ^ 60) (hp : PoolsOk pools)
    (hn : 8 ≤ names.length) (hs : sorts ≠ []) (hs2 : sorts.length < 2 ^ 29) {N : Env → Sto → Prop} :
    Wo (evSs gl rc (rulesF kd kp kc).body (startE (rulesF kd kp kc).nl [.obj 0, pools, .lst (names.map .str), .lst (sorts.map .str), .int 8]) S) N fun d S => (∃ rs : List Rl, d = .tup (rs.map Rl.d) ∧ RulesOk names sorts rs) ∧ StB cells (b + 300) S := by
  show Wo (evSs gl rc (rulesF kd kp kc).body [some (.obj 0), some pools, some (.lst (names.map .str)), some (.lst (sorts.map .str)), some (.int 8), none, none, none, none, none, none, none, none, none] S) N _
  unfold rulesF
  dsimp only
  rw [wo_cons]
  simp only [evS, evE, evEs, evAn, evOr, wo_outs, wo_nx, wo_rt, wr_bind, wr_ok, wo_ite, wr_ite, wr_lift, wr_tru, someEx, List.length_cons, List.length_nil, List.getElem?_cons_zero, List.getElem?_cons_succ, List.set_cons_zero, List.set_cons_succ, ix_lst, Nat.zero_add, Nat.reduceAdd, slB, isNon, D.isStr, if_true, evSl, evCs, tg_n, tg_t2, tg_t3, tg_t4, Tg.slots, Tg.slotss, wipeE, wr_noexc, Option.map_some, Option.bind_some, reduceIte]
  refine wr_mono (dr _ S 5 h (by omega) (by decide) (by decide)) fun d1 S1 ⟨kind, e1, k0, k1, h1⟩ => ?_
  subst e1
  simp only [evS, evE, evEs, evAn, evOr, wo_outs, wo_nx, wo_rt, wr_bind, wr_ok, wo_ite, wr_ite, wr_lift, wr_tru, someEx, List.length_cons, List.length_nil, List.getElem?_cons_zero, List.getElem?_cons_succ, List.set_cons_zero, List.set_cons_succ, ix_lst, Nat.zero_add, Nat.reduceAdd, slB, isNon, D.isStr, if_true, evSl, evCs, tg_n, tg_t2, tg_t3, tg_t4, Tg.slots, Tg.slotss, wipeE, wr_noexc, Option.map_some, Option.bind_some, reduceIte, par2]
  rw [wo_cons]
  simp only [evIt, evS, evE, evEs, evAn, evOr, wo_outs, wo_nx, wo_rt, wr_bind, wr_ok, wo_ite, wr_ite, wr_lift, wr_tru, someEx, List.length_cons, List.length_nil, List.getElem?_cons_zero, List.getElem?_cons_succ, List.set_cons_zero, List.set_cons_succ, ix_lst, Nat.zero_add, Nat.reduceAdd, slB, isNon, D.isStr, if_true, evSl, evCs, tg_n, tg_t2, tg_t3, tg_t4, Tg.slots, Tg.slotss, wipeE, wr_noexc, Option.map_some, Option.bind_some, reduceIte, add_int]
  refine wr_mono (dr _ S1 (8 + 1) h1 (by omega) (by decide) (by decide)) fun d2 S2 ⟨many, e2, m0, m1, h2⟩ => ?_
  subst e2
  simp only [evS, evE, evEs, evAn, evOr, wo_outs, wo_nx, wo_rt, wr_bind, wr_ok, wo_ite, wr_ite, wr_lift, wr_tru, someEx, List.length_cons, List.length_nil, List.getElem?_cons_zero, List.getElem?_cons_succ, List.set_cons_zero, List.set_cons_succ, ix_lst, Nat.zero_add, Nat.reduceAdd, slB, isNon, D.isStr, if_true, evSl, evCs, tg_n, tg_t2, tg_t3, tg_t4, Tg.slots, Tg.slotss, wipeE, wr_noexc, Option.map_some, Option.bind_some, reduceIte, items_lst, rng1 m0 (show many ≤ 16777216 by omega)]
  refine wo_for (I := fun i env S => StB cells (b + 2 + 30 * i) S ∧ ∃ (rs : List Rl) (x5 x8 x9 x10 x11 x12 x13 : Option D), env = [some (.obj 0), some pools, some (.lst (names.map .str)), some (.lst (sorts.map .str)), some (.int 8), x5, some (.int kind), some (.lst (rs.map Rl.d)), x8, x9, x10, x11, x12, x13] ∧
    rs.length = i ∧ (∀ (i : Nat) (r : Rl), rs[i]? = some r → names[i]? = some r.name) ∧ ∀ r ∈ rs, r.Ok ∧ r.sort ∈ sorts) (k := 0) ⟨h2.up (by omega), [], none, none, none, none, none, none, none, rfl, rfl, fun i r e => by simp at e, fun r hr => nomatch hr⟩ (fun i d env S hd ⟨hi, rs, x5, x8, x9, x10, x11, x12, x13, ee, lr, nr, pr⟩ => ?_) fun env S ⟨hi, rs, x5, x8, x9, x10, x11, x12, x13, ee, lr, nr, pr⟩ => ?_
  · obtain ⟨rfl, lt⟩ := range_get hd
    have lt : i < 8 := by omega
    subst ee
    simp only [evS, evE, evEs, evAn, evOr, wo_outs, wo_nx, wo_rt, wr_bind, wr_ok, wo_ite, wr_ite, wr_lift, wr_tru, someEx, List.length_cons, List.length_nil, List.getElem?_cons_zero, List.getElem?_cons_succ, List.set_cons_zero, List.set_cons_succ, ix_lst, Nat.zero_add, Nat.reduceAdd, slB, isNon, D.isStr, if_true, evSl, evCs, tg_n, tg_t2, tg_t3, tg_t4, Tg.slots, Tg.slotss, wipeE, wr_noexc, Option.map_some, Option.bind_some, reduceIte]
    rw [wo_cons]
    simp only [evS, evE, evEs, evAn, evOr, wo_outs, wo_nx, wo_rt, wr_bind, wr_ok, wo_ite, wr_ite, wr_lift, wr_tru, someEx, List.length_cons, List.length_nil, List.getElem?_cons_zero, List.getElem?_cons_succ, List.set_cons_zero, List.set_cons_succ, ix_lst, Nat.zero_add, Nat.reduceAdd, slB, isNon, D.isStr, if_true, evSl, evCs, tg_n, tg_t2, tg_t3, tg_t4, Tg.slots, Tg.slotss, wipeE, wr_noexc, Option.map_some, Option.bind_some, reduceIte]
    refine wr_mono (dr _ S 5 hi (by omega) (by decide) (by decide)) fun d3 S3 ⟨turn, e3, t0, t1, h3⟩ => ?_
    subst e3
    refine wr_mono (dr _ S3 3 h3 (by omega) (by decide) (by decide)) fun d4 S4 ⟨often, e4, o0, o1, h4⟩ => ?_
    subst e4
    simp only [evS, evE, evEs, evAn, evOr, wo_outs, wo_nx, wo_rt, wr_bind, wr_ok, wo_ite, wr_ite, wr_lift, wr_tru, someEx, List.length_cons, List.length_nil, List.getElem?_cons_zero, List.getElem?_cons_succ, List.set_cons_zero, List.set_cons_succ, ix_lst, Nat.zero_add, Nat.reduceAdd, slB, isNon, D.isStr, if_true, evSl, evCs, tg_n, tg_t2, tg_t3, tg_t4, Tg.slots, Tg.slotss, wipeE, wr_noexc, Option.map_some, Option.bind_some, reduceIte, add_int]
    rw [wo_cons]
    simp only [evS, evE, evEs, evAn, evOr, wo_outs, wo_nx, wo_rt, wr_bind, wr_ok, wo_ite, wr_ite, wr_lift, wr_tru, someEx, List.length_cons, List.length_nil, List.getElem?_cons_zero, List.getElem?_cons_succ, List.set_cons_zero, List.set_cons_succ, ix_lst, Nat.zero_add, Nat.reduceAdd, slB, isNon, D.isStr, if_true, evSl, evCs, tg_n, tg_t2, tg_t3, tg_t4, Tg.slots, Tg.slotss, wipeE, wr_noexc, Option.map_some, Option.bind_some, reduceIte, add_int]
    have e9 : ([D.str "clock", .str "days", .str "feast", .str "day", .str "week", .str "clock", .str "days", .str "feast", .str "day"] : List D) = words9.map D.str := rfl
    have e5 : (turn + 5).toNat - turn.toNat = 5 := by omega
    rw [e9, cut_mid _ t0 (show turn ≤ turn + 5 by omega), e5, ← List.map_drop, ← List.map_take]
    obtain ⟨w1, w2, w3⟩ := window turn.toNat (by omega)
    rw [wo_cons]
    simp only [evS, evE, evEs, evAn, evOr, wo_outs, wo_nx, wo_rt, wr_bind, wr_ok, wo_ite, wr_ite, wr_lift, wr_tru, someEx, List.length_cons, List.length_nil, List.getElem?_cons_zero, List.getElem?_cons_succ, List.set_cons_zero, List.set_cons_succ, ix_lst, Nat.zero_add, Nat.reduceAdd, slB, isNon, D.isStr, if_true, evSl, evCs, tg_n, tg_t2, tg_t3, tg_t4, Tg.slots, Tg.slotss, wipeE, wr_noexc, Option.map_some, Option.bind_some, reduceIte]
    rw [wo_cons]
    simp only [evS, evE, evEs, evAn, evOr, wo_outs, wo_nx, wo_rt, wr_bind, wr_ok, wo_ite, wr_ite, wr_lift, wr_tru, someEx, List.length_cons, List.length_nil, List.getElem?_cons_zero, List.getElem?_cons_succ, List.set_cons_zero, List.set_cons_succ, ix_lst, Nat.zero_add, Nat.reduceAdd, slB, isNon, D.isStr, if_true, evSl, evCs, tg_n, tg_t2, tg_t3, tg_t4, Tg.slots, Tg.slotss, wipeE, wr_noexc, Option.map_some, Option.bind_some, reduceIte, items_lst]
    refine wr_filterS (I := fun j S => StB cells (b + 2 + 30 * i + 2 + 3 * j) S) (P := fun d y => ∃ w c, d = .str w ∧ y = Cn.d c ∧ c.Ok ∧ c.word = w) (k := 0) (h4.up (by omega)) (fun j d S hd hj => ?_) fun own S5 sub h5 hsub lsub psub => ?_
    · rw [List.getElem?_map] at hd
      have ltj : j < 5 := by
        cases q : ((words9.drop turn.toNat).take 5)[j]? with
        | none =>
          rw [q] at hd
          cases hd
        | some w =>
          have := (List.getElem?_eq_some_iff.mp q).1
          omega
      obtain ⟨w, hw⟩ : ∃ w, ((words9.drop turn.toNat).take 5)[j]? = some w := ⟨_, List.getElem?_eq_getElem (by omega)⟩
      rw [hw] at hd
      cases hd
      simp only [evS, evE, evEs, evAn, evOr, wo_outs, wo_nx, wo_rt, wr_bind, wr_ok, wo_ite, wr_ite, wr_lift, wr_tru, someEx, List.length_cons, List.length_nil, List.getElem?_cons_zero, List.getElem?_cons_succ, List.set_cons_zero, List.set_cons_succ, ix_lst, Nat.zero_add, Nat.reduceAdd, slB, isNon, D.isStr, if_true, evSl, evCs, tg_n, tg_t2, tg_t3, tg_t4, Tg.slots, Tg.slotss, wipeE, wr_noexc, Option.map_some, Option.bind_some, reduceIte]
      refine wr_mono (dr _ S 6 hj (by omega) (by decide) (by decide)) fun d6 S6 ⟨six, e6, s0, s1, h6⟩ => ?_
      subst e6
      simp only [evS, evE, evEs, evAn, evOr, wo_outs, wo_nx, wo_rt, wr_bind, wr_ok, wo_ite, wr_ite, wr_lift, wr_tru, someEx, List.length_cons, List.length_nil, List.getElem?_cons_zero, List.getElem?_cons_succ, List.set_cons_zero, List.set_cons_succ, ix_lst, Nat.zero_add, Nat.reduceAdd, slB, isNon, D.isStr, if_true, evSl, evCs, tg_n, tg_t2, tg_t3, tg_t4, Tg.slots, Tg.slotss, wipeE, wr_noexc, Option.map_some, Option.bind_some, reduceIte, lt_int]
      by_cases q : six < 1 + often
      · rw [if_pos (by simpa using q)]
        refine wr_mono (cn _ S6 pools w h6 (by omega) hp (w3 w (List.mem_iff_getElem?.mpr ⟨j, hw⟩))) fun d S7 ⟨⟨c, ec, co, cw⟩, h7⟩ => ?_
        exact ⟨h7.up (by omega), fun y ey => ⟨w, c, rfl, by cases ey; exact ec, co, cw⟩⟩
      · rw [if_neg (by simpa using q)]
        exact ⟨h6.up (by omega), fun y ey => nomatch ey⟩
    · obtain ⟨cs, rfl, es, cok⟩ := uncn lsub psub
      have cnd : (cs.map Cn.word).Nodup := nodup_str.mp (List.Nodup.sublist (es ▸ hsub) (nodup_str.mpr w1))
      have cln : cs.length ≤ 5 := by
        have := hsub.length_le
        rw [es, List.length_map, List.length_map, List.length_map, w2] at this
        exact this
      rw [List.length_map, w2] at h5
      rw [wo_cons]
      simp only [evS, evE, evEs, evAn, evOr, wo_outs, wo_nx, wo_rt, wr_bind, wr_ok, wo_ite, wr_ite, wr_lift, wr_tru, someEx, List.length_cons, List.length_nil, List.getElem?_cons_zero, List.getElem?_cons_succ, List.set_cons_zero, List.set_cons_succ, ix_lst, Nat.zero_add, Nat.reduceAdd, slB, isNon, D.isStr, if_true, evSl, evCs, tg_n, tg_t2, tg_t3, tg_t4, Tg.slots, Tg.slotss, wipeE, wr_noexc, Option.map_some, Option.bind_some, reduceIte, mul_int (show CMul 9 ((i : Nat) : Int) by unfold CMul; omega), sub_int]
      refine wr_mono (dr _ S5 2 h5 (by omega) (by decide) (by decide)) fun d7 S7 ⟨ra, e7, a0, a1, h7⟩ => ?_
      subst e7
      refine wr_mono (dr _ S7 2 h7 (by omega) (by decide) (by decide)) fun d8 S8 ⟨rb, e8, b0, b1, h8⟩ => ?_
      subst e8
      simp only [evS, evE, evEs, evAn, evOr, wo_outs, wo_nx, wo_rt, wr_bind, wr_ok, wo_ite, wr_ite, wr_lift, wr_tru, someEx, List.length_cons, List.length_nil, List.getElem?_cons_zero, List.getElem?_cons_succ, List.set_cons_zero, List.set_cons_succ, ix_lst, Nat.zero_add, Nat.reduceAdd, slB, isNon, D.isStr, if_true, evSl, evCs, tg_n, tg_t2, tg_t3, tg_t4, Tg.slots, Tg.slotss, wipeE, wr_noexc, Option.map_some, Option.bind_some, reduceIte, mul_int (show CMul 99 rb by unfold CMul; omega)]
      refine wr_mono (dr _ S8 100 h8 (by omega) (by decide) (by decide)) fun d9 S9 ⟨rc', e9, c0, c1, h9⟩ => ?_
      subst e9
      obtain ⟨rank, ar, rk0, rk1⟩ : ∃ rank : Int, atI ([.int (9 * ((i : Nat) : Int)), .int (50 - ((i : Nat) : Int)), .int ra, .int (99 * rb), .int rc'] : List D) kind = some (.int rank) ∧ 0 ≤ rank ∧ rank ≤ 99 := by
        have : kind = 0 ∨ kind = 1 ∨ kind = 2 ∨ kind = 3 ∨ kind = 4 := by omega
        rcases this with e | e | e | e | e <;> subst e <;> exact ⟨_, rfl, by omega, by omega⟩
      rw [ar]
      refine ⟨_, rfl, ?_⟩
      rw [wo_cons]
      simp only [evS, evE, evEs, evAn, evOr, wo_outs, wo_nx, wo_rt, wr_bind, wr_ok, wo_ite, wr_ite, wr_lift, wr_tru, someEx, List.length_cons, List.length_nil, List.getElem?_cons_zero, List.getElem?_cons_succ, List.set_cons_zero, List.set_cons_succ, ix_lst, Nat.zero_add, Nat.reduceAdd, slB, isNon, D.isStr, if_true, evSl, evCs, tg_n, tg_t2, tg_t3, tg_t4, Tg.slots, Tg.slotss, wipeE, wr_noexc, Option.map_some, Option.bind_some, reduceIte]
      obtain ⟨nm, hnm⟩ : ∃ nm, names[i]? = some nm := ⟨_, List.getElem?_eq_getElem (by omega)⟩
      refine ⟨.str nm, atI_nat (by omega) (by rw [Int.toNat_natCast, List.getElem?_map, hnm]; rfl), ?_⟩
      refine wr_mono (pk _ S9 _ h9 (by omega) (fun z => hs (List.map_eq_nil_iff.mp z)) (by rw [List.length_map]; omega)) fun d10 S10 ⟨m10, h10⟩ => ?_
      obtain ⟨so, mso, rfl⟩ := List.mem_map.mp m10
      refine ⟨_, evTupL _, ?_⟩
      rw [if_pos (by rw [List.length_map]; unfold sizeLine; omega)]
      rw [wo_cons]
      simp only [evS, evE, evEs, evAn, evOr, wo_outs, wo_nx, wo_rt, wr_bind, wr_ok, wo_ite, wr_ite, wr_lift, wr_tru, someEx, List.length_cons, List.length_nil, List.getElem?_cons_zero, List.getElem?_cons_succ, List.set_cons_zero, List.set_cons_succ, ix_lst, Nat.zero_add, Nat.reduceAdd, slB, isNon, D.isStr, if_true, evSl, evCs, tg_n, tg_t2, tg_t3, tg_t4, Tg.slots, Tg.slotss, wipeE, wr_noexc, Option.map_some, Option.bind_some, reduceIte]
      refine ⟨h10.up (by omega), rs ++ [⟨nm, rank, so, cs⟩], _, _, _, _, _, _, _, by rw [List.map_append]; rfl, by rw [List.length_append]; show rs.length + 1 = _; omega, fun j r hr => ?_, fun r hr => ?_⟩
      · by_cases hj : j < rs.length
        · rw [List.getElem?_append_left hj] at hr
          exact nr j r hr
        · have hj2 : j = rs.length := by
            have := (List.getElem?_eq_some_iff.mp hr).1
            rw [List.length_append] at this
            have : j < rs.length + 1 := this
            omega
          rw [hj2, List.getElem?_append_right (Nat.le_refl _), Nat.sub_self] at hr
          cases hr
          have : j = i := by omega
          rw [this]
          exact hnm
      · rcases List.mem_append.mp hr with q | q
        · exact pr r q
        · rw [List.mem_singleton.mp q]
          exact ⟨⟨rk0, rk1, cok, cnd, cln⟩, mso⟩
  · subst ee
    rw [wo_cons]
    simp only [evS, evE, evEs, evAn, evOr, wo_outs, wo_nx, wo_rt, wr_bind, wr_ok, wo_ite, wr_ite, wr_lift, wr_tru, someEx, List.length_cons, List.length_nil, List.getElem?_cons_zero, List.getElem?_cons_succ, List.set_cons_zero, List.set_cons_succ, ix_lst, Nat.zero_add, Nat.reduceAdd, slB, isNon, D.isStr, if_true, evSl, evCs, tg_n, tg_t2, tg_t3, tg_t4, Tg.slots, Tg.slotss, wipeE, wr_noexc, Option.map_some, Option.bind_some, reduceIte, evTupL]
    rw [List.length_map, List.length_range] at hi lr
    exact ⟨⟨rs, rfl, by omega, nr, pr⟩, hi.up (by omega)⟩
end VE

set_option Elab.async false
set_option linter.all false
set_option maxRecDepth 100000
set_option maxHeartbeats 4000000
/-! VL, part 6: the book. -/
namespace VE
open PySem PySem.Spec PyProof.Rows L2

theorem rules_ok {P : Prog} {n kr kc kd kp : Nat} {cells : List Int} {b : Int} {S : Sto} {pools : D} {names sorts : List Str} (hr : P.fns[kr]? = some (rulesF kd kp kc)) (hc : P.fns[kc]? = some (condF kd kp)) (hp : P.fns[kp]? = some (pickF kd)) (hd : P.fns[kd]? = some drawF)
    (h : StB cells b S) (hb : b + 300 ≤ 2 ^ 60) (po : PoolsOk pools) (hn : 8 ≤ names.length) (hs : sorts ≠ []) (hs2 : sorts.length < 2 ^ 29) :
    Wr (run P (n + 4) kr [.obj 0, pools, .lst (names.map .str), .lst (sorts.map .str), .int 8] S) fun d S => (∃ rs : List Rl, d = .tup (rs.map Rl.d) ∧ RulesOk names sorts rs) ∧ StB cells (b + 300) S :=
  wr_run hr rfl (wo_mono (rules_body (draw_ok hd) (pick_ok hp hd) (cond_ok hc hp hd) h hb po hn hs hs2 (N := fun _ _ => False)) (fun _ _ z => z.elim) fun _ _ z => z)
theorem sorted_map {α : Type} {f : α → D} {as : List α} (h : sortOk (as.map f) = true) : ∃ bs : List α, bs.Perm as ∧ evBi .sorted [.lst (as.map f)] = some (.lst (bs.map f)) := by
  refine ⟨as.mergeSort fun x y => PySem.W.dataLe false encD (f x) (f y), List.mergeSort_perm _ _, ?_⟩
  show (if sortOk (as.map f) = true then some (D.lst ((as.map f).mergeSort (PySem.W.dataLe false encD))) else none) = _
  rw [if_pos h, List.map_mergeSort (r := fun x y => PySem.W.dataLe false encD (f x) (f y)) (s := PySem.W.dataLe false encD) (f := f) (l := as) fun _ _ _ _ => rfl]
theorem sortOk_strs (ws : List Str) : sortOk (ws.map .str) = true := by
  unfold sortOk
  simp only [Bool.and_eq_true, Bool.or_eq_true, List.all_eq_true, List.mem_map]
  refine ⟨⟨⟨?_, ?_⟩, .inr ?_⟩, ?_⟩
  · rintro _ ⟨w, _, rfl⟩
    rfl
  · rintro _ ⟨w, _, rfl⟩ _ ⟨v, _, rfl⟩
    rfl
  · rintro _ ⟨w, _, rfl⟩
    rfl
  · rintro _ ⟨w, _, rfl⟩
    rfl
def rdD (p : Str × Int) : D := .tup [.str p.1, .int p.2]
theorem sortOk_pairs (ws : List (Str × Int)) : sortOk (ws.map rdD) = true := by
  unfold sortOk
  simp only [Bool.and_eq_true, Bool.or_eq_true, List.all_eq_true, List.mem_map]
  refine ⟨⟨⟨?_, ?_⟩, .inl ?_⟩, ?_⟩
  · rintro _ ⟨w, _, rfl⟩
    rfl
  · rintro _ ⟨w, _, rfl⟩ _ ⟨v, _, rfl⟩
    rfl
  · rintro _ ⟨w, _, rfl⟩
    rfl
  · rintro _ ⟨w, _, rfl⟩
    rfl
theorem zip_pairs : ∀ {ws : List Str} {xs : List Int}, ((ws.map D.str).zip (xs.map D.int)).map (fun p => D.tup [p.1, p.2]) = (ws.zip xs).map rdD
  | [], _ => rfl
  | _ :: _, [] => rfl
  | w :: ws, x :: xs => by
    rw [List.map_cons, List.map_cons, List.zip_cons_cons, List.map_cons, zip_pairs, List.zip_cons_cons, List.map_cons]
    rfl
/-- the order of rates -/
def rdLe (p q : Str × Int) : Prop := p.1.cps.toList < q.1.cps.toList ∨ (p.1 = q.1 ∧ p.2 ≤ q.2)
theorem str_of_cps {x y : Str} (h : x.cps.toList = y.cps.toList) : x = y := by
  obtain ⟨⟨a⟩⟩ := x
  obtain ⟨⟨b⟩⟩ := y
  have h : a = b := h
  rw [h]
theorem rd_le (p q : Str × Int) : PySem.W.dataLe false encD (rdD p) (rdD q) = true ↔ rdLe p q := by
  have e : PySem.W.dataLe false encD (rdD p) (rdD q) = !PySem.W.dataLt (.tuple [.str q.1, .int q.2]) (.tuple [.str p.1, .int p.2]) := rfl
  rw [e, PySem.W.dataLt_pair rfl rfl, PySem.W.dataLt_str, PySem.W.dataLt_int]
  simp only [PyData.eqv, beq_iff_eq]
  unfold rdLe
  by_cases h1 : q.1 = p.1
  · rw [if_pos h1, h1]
    have ir : ¬ p.1.cps.toList < p.1.cps.toList := List.lt_irrefl _
    by_cases h2 : q.2 = p.2
    · rw [if_pos h2, h2]
      simp
    · rw [if_neg h2]
      simp only [Bool.not_eq_true', decide_eq_false_iff_not, ir, true_and, false_or]
      omega
  · rw [if_neg h1]
    have h3 : ¬ p.1 = q.1 := fun z => h1 z.symm
    simp only [Bool.not_eq_true', decide_eq_false_iff_not, h3, false_and, or_false]
    constructor
    · intro z
      rcases List.le_total p.1.cps.toList q.1.cps.toList with t | t
      · rcases List.le_iff_lt_or_eq.mp t with t | t
        · exact t
        · exact absurd (str_of_cps t) h3
      · rcases List.le_iff_lt_or_eq.mp t with t | t
        · exact absurd t z
        · exact absurd (str_of_cps t) h1
    · intro z t
      exact List.lt_irrefl _ (List.lt_trans z t)
theorem sorted_pairs {as : List (Str × Int)} : ∃ bs : List (Str × Int), bs.Perm as ∧ bs.Pairwise rdLe ∧ evBi .sorted [.lst (as.map rdD)] = some (.lst (bs.map rdD)) := by
  refine ⟨as.mergeSort fun x y => PySem.W.dataLe false encD (rdD x) (rdD y), List.mergeSort_perm _ _, ?_, ?_⟩
  · refine (List.pairwise_mergeSort (fun a b c h1 h2 => ?_) (fun a b => ?_) as).imp fun h => (rd_le _ _).mp h
    · have h1 := (rd_le _ _).mp h1
      have h2 := (rd_le _ _).mp h2
      refine (rd_le _ _).mpr ?_
      rcases h1 with h1 | ⟨h1, h3⟩
      · rcases h2 with h2 | ⟨h2, h4⟩
        · exact .inl (List.lt_trans h1 h2)
        · exact .inl (by rw [← h2]; exact h1)
      · rcases h2 with h2 | ⟨h2, h4⟩
        · exact .inl (by rw [h1]; exact h2)
        · exact .inr ⟨h1.trans h2, Int.le_trans h3 h4⟩
    · have : rdLe a b ∨ rdLe b a := by
        unfold rdLe
        rcases List.le_total a.1.cps.toList b.1.cps.toList with t | t
        · rcases List.le_iff_lt_or_eq.mp t with t | t
          · exact .inl (.inl t)
          · have e := str_of_cps t
            rcases Int.le_total a.2 b.2 with u | u
            · exact .inl (.inr ⟨e, u⟩)
            · exact .inr (.inr ⟨e.symm, u⟩)
        · rcases List.le_iff_lt_or_eq.mp t with t | t
          · exact .inr (.inl t)
          · have e := str_of_cps t
            rcases Int.le_total a.2 b.2 with u | u
            · exact .inl (.inr ⟨e.symm, u⟩)
            · exact .inr (.inr ⟨e, u⟩)
      rcases this with h | h
      · rw [(rd_le _ _).mpr h]
        rfl
      · rw [(rd_le _ _).mpr h, Bool.or_true]
  · show (if sortOk (as.map rdD) = true then some (D.lst ((as.map rdD).mergeSort (PySem.W.dataLe false encD))) else none) = _
    rw [if_pos (sortOk_pairs as), List.map_mergeSort (r := fun x y => PySem.W.dataLe false encD (rdD x) (rdD y)) (s := PySem.W.dataLe false encD) (f := rdD) (l := as) fun _ _ _ _ => rfl]
structure Bk where
  base : Str
  rates : List (Str × Int)
  rules : List Rl
def Bk.d (k : Bk) : D := .tup [.str k.base, .tup (k.rates.map rdD), .tup (k.rules.map Rl.d)]
structure BkOk (k : Bk) : Prop where
  base : k.base ∈ k.rates.map (·.1)
  names : ∀ p ∈ k.rates, Name p.1 ∧ 0 ≤ p.2 ∧ p.2 ≤ 1000000
  nodup : (k.rates.map (·.1)).Nodup
  few : k.rates.length ≤ 21
  rules : k.rules.length ≤ 8
  rnodup : (k.rules.map Rl.name).Nodup
  rok : ∀ r ∈ k.rules, r.Ok ∧ Name r.name ∧ r.sort ∈ k.rates.map (·.1)
def Bk.Rise (k : Bk) : Prop := k.rates.Pairwise fun p q => p.1.cps.toList < q.1.cps.toList
def bookF (kd kp kn kr : Nat) : Fn := ⟨3, 7, true, [
  .asg 3 (.call kn [.v 0]),
  .asg 4 (.bi .sorted [.sl (.v 3) (.non) (.bin .add (.int 1) (.call kd [.v 0, .ix (.lst [.int 4, .int 9]) (.call kd [.v 0, .int 2])]))]),
  .frz [4],
  .asg 5 (.comp (.ix (.lst [.call kd [.v 0, .int 3], .call kd [.v 0, .bin .add (.bin .pow (.int 10) (.int 6)) (.int 1)], .bin .pow (.int 10) (.int 6)]) (.call kd [.v 0, .int 3])) (.n 6) (.v 4) []),
  .ret (.tup [.call kp [.v 0, .v 4], .tzip (.v 4) (.v 5), .call kr [.v 0, .v 1, .sl (.v 3) (.int 3) (.non), .v 4, .v 2]])]⟩
def NamesFn (rc : Nat → List D → Sto → Res D) (kn : Nat) (cells : List Int) : Prop := ∀ (b : Int) (S : Sto), StB cells b S → b + 40 ≤ 2 ^ 60 → Wr (rc kn [.obj 0] S) fun d S => NamesOk d ∧ StB cells (b + 40) S
def RulesFn (rc : Nat → List D → Sto → Res D) (kr : Nat) (cells : List Int) : Prop := ∀ (b : Int) (S : Sto) (pools : D) (names sorts : List Str), StB cells b S → b + 300 ≤ 2 ^ 60 → PoolsOk pools → 8 ≤ names.length → sorts ≠ [] → sorts.length < 2 ^ 29 →
  Wr (rc kr [.obj 0, pools, .lst (names.map .str), .lst (sorts.map .str), .int 8] S) fun d S => (∃ rs : List Rl, d = .tup (rs.map Rl.d) ∧ RulesOk names sorts rs) ∧ StB cells (b + 300) S
theorem book_body {gl : List D} {rc : Nat → List D → Sto → Res D} {kd kp kn kr : Nat} {cells : List Int} {b : Int} {S : Sto} {pools : D} (dr : DrawOk rc kd cells) (pk : PickOk rc kp cells) (nf : NamesFn rc kn cells) (rf : RulesFn rc kr cells) (h : StB cells b S) (hb : b + 400 ≤ 2 ^ 60) (hp : PoolsOk pools) {N : Env → Sto → Prop} :
    Wo (evSs gl rc (bookF kd kp kn kr).body (startE (bookF kd kp kn kr).nl [.obj 0, pools, .int 8]) S) N fun d S => (∃ k : Bk, d = k.d ∧ BkOk k ∧ k.rates.length ≤ 9) ∧ StB cells (b + 400) S := by
  show Wo (evSs gl rc (bookF kd kp kn kr).body [some (.obj 0), some pools, some (.int 8), none, none, none, none] S) N _
  unfold bookF
  dsimp only
  rw [wo_cons]
  simp only [evS, evE, evEs, evAn, evOr, wo_outs, wo_nx, wo_rt, wr_bind, wr_ok, wo_ite, wr_ite, wr_lift, wr_tru, someEx, List.length_cons, List.length_nil, List.getElem?_cons_zero, List.getElem?_cons_succ, List.set_cons_zero, List.set_cons_succ, ix_lst, Nat.zero_add, Nat.reduceAdd, slB, isNon, D.isStr, if_true, evSl, evCs, tg_n, tg_t2, tg_t3, tg_t4, Tg.slots, Tg.slotss, wipeE, wr_noexc, Option.map_some, Option.bind_some, reduceIte]
  refine wr_mono (nf _ S h (by omega)) fun d1 S1 ⟨⟨ws, e1, lw, nw, ndw⟩, h1⟩ => ?_
  subst e1
  rw [wo_cons]
  simp only [evS, evE, evEs, evAn, evOr, wo_outs, wo_nx, wo_rt, wr_bind, wr_ok, wo_ite, wr_ite, wr_lift, wr_tru, someEx, List.length_cons, List.length_nil, List.getElem?_cons_zero, List.getElem?_cons_succ, List.set_cons_zero, List.set_cons_succ, ix_lst, Nat.zero_add, Nat.reduceAdd, slB, isNon, D.isStr, if_true, evSl, evCs, tg_n, tg_t2, tg_t3, tg_t4, Tg.slots, Tg.slotss, wipeE, wr_noexc, Option.map_some, Option.bind_some, reduceIte]
  refine wr_mono (dr _ S1 2 h1 (by omega) (by decide) (by decide)) fun d2 S2 ⟨two, e2, t0, t1, h2⟩ => ?_
  subst e2
  obtain ⟨lim, al, l0⟩ : ∃ lim : Int, atI ([.int 4, .int 9] : List D) two = some (.int lim) ∧ (lim = 4 ∨ lim = 9) := by
    have : two = 0 ∨ two = 1 := by omega
    rcases this with e | e <;> subst e
    · exact ⟨4, rfl, .inl rfl⟩
    · exact ⟨9, rfl, .inr rfl⟩
  simp only [evS, evE, evEs, evAn, evOr, wo_outs, wo_nx, wo_rt, wr_bind, wr_ok, wo_ite, wr_ite, wr_lift, wr_tru, someEx, List.length_cons, List.length_nil, List.getElem?_cons_zero, List.getElem?_cons_succ, List.set_cons_zero, List.set_cons_succ, ix_lst, Nat.zero_add, Nat.reduceAdd, slB, isNon, D.isStr, if_true, evSl, evCs, tg_n, tg_t2, tg_t3, tg_t4, Tg.slots, Tg.slotss, wipeE, wr_noexc, Option.map_some, Option.bind_some, reduceIte, al]
  refine wr_mono (dr _ S2 lim h2 (by omega) (by omega) (by omega)) fun d3 S3 ⟨n, e3, n0, n1, h3⟩ => ?_
  subst e3
  simp only [evS, evE, evEs, evAn, evOr, wo_outs, wo_nx, wo_rt, wr_bind, wr_ok, wo_ite, wr_ite, wr_lift, wr_tru, someEx, List.length_cons, List.length_nil, List.getElem?_cons_zero, List.getElem?_cons_succ, List.set_cons_zero, List.set_cons_succ, ix_lst, Nat.zero_add, Nat.reduceAdd, slB, isNon, D.isStr, if_true, evSl, evCs, tg_n, tg_t2, tg_t3, tg_t4, Tg.slots, Tg.slotss, wipeE, wr_noexc, Option.map_some, Option.bind_some, reduceIte, add_int]
  rw [cut_to _ (show 0 ≤ 1 + n by omega), ← List.map_take]
  obtain ⟨so, sp, es⟩ := sorted_map (sortOk_strs (ws.take (1 + n).toNat))
  have lso : so.length = (1 + n).toNat := by
    rw [sp.length_eq, List.length_take]
    omega
  simp only [es, evS, evE, evEs, evAn, evOr, wo_outs, wo_nx, wo_rt, wr_bind, wr_ok, wo_ite, wr_ite, wr_lift, wr_tru, someEx, List.length_cons, List.length_nil, List.getElem?_cons_zero, List.getElem?_cons_succ, List.set_cons_zero, List.set_cons_succ, ix_lst, Nat.zero_add, Nat.reduceAdd, slB, isNon, D.isStr, if_true, evSl, evCs, tg_n, tg_t2, tg_t3, tg_t4, Tg.slots, Tg.slotss, wipeE, wr_noexc, Option.map_some, Option.bind_some, reduceIte]
  rw [wo_cons]
  simp only [evS, evE, evEs, evAn, evOr, wo_outs, wo_nx, wo_rt, wr_bind, wr_ok, wo_ite, wr_ite, wr_lift, wr_tru, someEx, List.length_cons, List.length_nil, List.getElem?_cons_zero, List.getElem?_cons_succ, List.set_cons_zero, List.set_cons_succ, ix_lst, Nat.zero_add, Nat.reduceAdd, slB, isNon, D.isStr, if_true, evSl, evCs, tg_n, tg_t2, tg_t3, tg_t4, Tg.slots, Tg.slotss, wipeE, wr_noexc, Option.map_some, Option.bind_some, reduceIte]
  rw [wo_cons]
  simp only [evS, evE, evEs, evAn, evOr, wo_outs, wo_nx, wo_rt, wr_bind, wr_ok, wo_ite, wr_ite, wr_lift, wr_tru, someEx, List.length_cons, List.length_nil, List.getElem?_cons_zero, List.getElem?_cons_succ, List.set_cons_zero, List.set_cons_succ, ix_lst, Nat.zero_add, Nat.reduceAdd, slB, isNon, D.isStr, if_true, evSl, evCs, tg_n, tg_t2, tg_t3, tg_t4, Tg.slots, Tg.slotss, wipeE, wr_noexc, Option.map_some, Option.bind_some, reduceIte, items_lst]
  have p6 : evBin .pow (.int 10) (.int 6) = some (.int 1000000) := pow_int (by decide)
  refine wr_map (I := fun i S => StB cells (b + 42 + 4 * i) S) (P := fun _ _ y => ∃ x : Int, y = .int x ∧ 0 ≤ x ∧ x ≤ 1000000) (k := 0) (h3.up (by omega)) (fun i d S hd hi => ?_) fun coins S4 h4 lco pco => ?_
  · simp only [evS, evE, evEs, evAn, evOr, wo_outs, wo_nx, wo_rt, wr_bind, wr_ok, wo_ite, wr_ite, wr_lift, wr_tru, someEx, List.length_cons, List.length_nil, List.getElem?_cons_zero, List.getElem?_cons_succ, List.set_cons_zero, List.set_cons_succ, ix_lst, Nat.zero_add, Nat.reduceAdd, slB, isNon, D.isStr, if_true, evSl, evCs, tg_n, tg_t2, tg_t3, tg_t4, Tg.slots, Tg.slotss, wipeE, wr_noexc, Option.map_some, Option.bind_some, reduceIte]
    have lt : i < 9 := by
      have := (List.getElem?_eq_some_iff.mp hd).1
      rw [List.length_map] at this
      omega
    refine wr_mono (dr _ S 3 hi (by omega) (by decide) (by decide)) fun d5 S5 ⟨x1, e5, a0, a1, h5⟩ => ?_
    subst e5
    simp only [evS, evE, evEs, evAn, evOr, wo_outs, wo_nx, wo_rt, wr_bind, wr_ok, wo_ite, wr_ite, wr_lift, wr_tru, someEx, List.length_cons, List.length_nil, List.getElem?_cons_zero, List.getElem?_cons_succ, List.set_cons_zero, List.set_cons_succ, ix_lst, Nat.zero_add, Nat.reduceAdd, slB, isNon, D.isStr, if_true, evSl, evCs, tg_n, tg_t2, tg_t3, tg_t4, Tg.slots, Tg.slotss, wipeE, wr_noexc, Option.map_some, Option.bind_some, reduceIte, p6, add_int]
    refine wr_mono (dr _ S5 (1000000 + 1) h5 (by omega) (by decide) (by decide)) fun d6 S6 ⟨x2, e6, b0, b1, h6⟩ => ?_
    subst e6
    refine wr_mono (dr _ S6 3 h6 (by omega) (by decide) (by decide)) fun d7 S7 ⟨x3, e7, c0, c1, h7⟩ => ?_
    subst e7
    have : x3 = 0 ∨ x3 = 1 ∨ x3 = 2 := by omega
    rcases this with e | e | e <;> subst e
    · exact ⟨_, rfl, h7.up (by omega), _, rfl, by omega, by omega⟩
    · exact ⟨_, rfl, h7.up (by omega), _, rfl, by omega, by omega⟩
    · exact ⟨_, rfl, h7.up (by omega), _, rfl, by omega, by omega⟩
  · obtain ⟨xs, rfl, lxs, pxs⟩ := unmapP (f := D.int) (P := fun _ x => 0 ≤ x ∧ x ≤ 1000000) (r := coins) (fun i y hy => by
      have lt : i < (so.map D.str).length := by
        rw [← lco]
        exact (List.getElem?_eq_some_iff.mp hy).1
      exact pco i _ y (List.getElem?_eq_getElem lt) hy)
    have l5 : (so.map D.str).length = so.length := List.length_map _
    rw [l5] at h4 lco
    rw [wo_cons]
    have ez : evZip (.lst (so.map D.str)) (.lst (xs.map D.int)) = some ((so.zip xs).map rdD) := congrArg some zip_pairs
    have sne : so ≠ [] := fun z => by
      rw [z] at lso
      have : 0 = (1 + n).toNat := lso
      omega
    simp only [evS, evE, evEs, evAn, evOr, wo_outs, wo_nx, wo_rt, wr_bind, wr_ok, wo_ite, wr_ite, wr_lift, wr_tru, someEx, List.length_cons, List.length_nil, List.getElem?_cons_zero, List.getElem?_cons_succ, List.set_cons_zero, List.set_cons_succ, ix_lst, Nat.zero_add, Nat.reduceAdd, slB, isNon, D.isStr, if_true, evSl, evCs, tg_n, tg_t2, tg_t3, tg_t4, Tg.slots, Tg.slotss, wipeE, wr_noexc, Option.map_some, Option.bind_some, reduceIte, ez]
    refine wr_mono (pk _ S4 _ h4 (by omega) (fun z => sne (List.map_eq_nil_iff.mp z)) (by rw [List.length_map]; omega)) fun d8 S8 ⟨m8, h8⟩ => ?_
    obtain ⟨ba, mba, rfl⟩ := List.mem_map.mp m8
    rw [cut_from _ (show (0 : Int) ≤ 3 by decide), ← List.map_drop]
    refine wr_mono (rf _ S8 pools _ so h8 (by omega) hp (by rw [List.length_drop, lw]; decide) sne (by omega)) fun d9 S9 ⟨⟨rs, e9, r0, r1, r2⟩, h9⟩ => ?_
    subst e9
    have em : (so.zip xs).map (·.1) = so := List.map_fst_zip (by omega)
    have rn : rs.map Rl.name = (ws.drop (Int.toNat 3)).take rs.length := by
      refine List.ext_getElem? fun j => ?_
      rw [List.getElem?_map, List.getElem?_take]
      by_cases hj : j < rs.length
      · rw [if_pos hj, List.getElem?_eq_getElem hj, r1 j _ (List.getElem?_eq_getElem hj)]
        rfl
      · rw [if_neg hj, List.getElem?_eq_none (by omega)]
        rfl
    have rsub : (rs.map Rl.name).Sublist ws := by
      rw [rn]
      exact (List.take_sublist _ _).trans (List.drop_sublist _ _)
    have som : ∀ x ∈ so, x ∈ ws := fun x hx => List.mem_of_mem_take (sp.mem_iff.mp hx)
    refine ⟨⟨⟨ba, so.zip xs, rs⟩, rfl, ⟨?_, fun p hp => ?_, ?_, ?_, r0, rsub.nodup ndw, fun r hr => ⟨(r2 r hr).1, nw _ (rsub.subset (List.mem_map_of_mem hr)), ?_⟩⟩, ?_⟩, h9.up (by omega)⟩
    · show ba ∈ (so.zip xs).map (·.1)
      rw [em]
      obtain ⟨y, hy, e⟩ := List.mem_map.mp m8
      cases e
      exact hy
    · have hp' : p ∈ so.zip xs := hp
      obtain ⟨j, hj⟩ := List.mem_iff_getElem?.mp (List.of_mem_zip (a := p.1) (b := p.2) hp').2
      exact ⟨nw _ (som _ (List.of_mem_zip (a := p.1) (b := p.2) hp').1), pxs j _ hj⟩
    · show ((so.zip xs).map (·.1)).Nodup
      rw [em]
      exact sp.nodup_iff.mpr ((List.take_sublist _ _).nodup ndw)
    · show (so.zip xs).length ≤ 21
      rw [List.length_zip]
      omega
    · show r.sort ∈ (so.zip xs).map (·.1)
      rw [em]
      exact (r2 r hr).2
    · show (so.zip xs).length ≤ 9
      rw [List.length_zip]
      omega
theorem book_ok {P : Prog} {n kb kn kr kc kd kp : Nat} {cells : List Int} {b : Int} {S : Sto} {pools : D} (hk : P.fns[kb]? = some (bookF kd kp kn kr)) (hn : P.fns[kn]? = some (namesF kd)) (hr : P.fns[kr]? = some (rulesF kd kp kc)) (hc : P.fns[kc]? = some (condF kd kp)) (hp : P.fns[kp]? = some (pickF kd)) (hd : P.fns[kd]? = some drawF)
    (h : StB cells b S) (hb : b + 400 ≤ 2 ^ 60) (po : PoolsOk pools) : Wr (run P (n + 5) kb [.obj 0, pools, .int 8] S) fun d S => (∃ k : Bk, d = k.d ∧ BkOk k ∧ k.rates.length ≤ 9) ∧ StB cells (b + 400) S :=
  wr_run hk rfl (wo_mono (book_body (draw_ok hd) (pick_ok hp hd) (fun b S h hb => names_ok hn hd h hb) (fun b S pools names sorts h hb po hn' hs hs2 => rules_ok hr hc hp hd h hb po hn' hs hs2) h hb po (N := fun _ _ => False)) (fun _ _ z => z.elim) fun _ _ z => z)
end VE

set_option Elab.async false
set_option linter.all false
set_option maxRecDepth 100000
set_option maxHeartbeats 4000000
/-! VL, part 7: the wide book. -/
namespace VE
open PySem PySem.Spec PyProof.Rows L2

theorem flat_strs (ws : List Str) : (ws.map D.str).all flatD = true := by
  rw [List.all_eq_true]
  intro x hx
  obtain ⟨w, _, rfl⟩ := List.mem_map.mp hx
  rfl
theorem in_strs (w : Str) (ws : List Str) : evIn (.str w) (.lst (ws.map .str)) = some (ws.any fun z => z == w) := by
  show (if flatD (.str w) = true ∧ (ws.map D.str).all flatD = true then some ((ws.map D.str).any fun z => eqF z (.str w)) else _) = _
  rw [if_pos ⟨rfl, flat_strs ws⟩, List.any_map]
  rfl
theorem notin_strs (w : Str) (ws : List Str) : evCmp .notin (.str w) (.lst (ws.map .str)) = some !(ws.any fun z => z == w) := by
  show (evIn _ _).map _ = _
  rw [in_strs]
  rfl
theorem filt_strs (q : Str → Bool) : ∀ l : List Str, ((l.map D.str).filterMap fun d => match d with
    | .str w => if q w then some d else none
    | _ => none) = (l.filter q).map D.str
  | [] => rfl
  | w :: l => by
    rw [List.map_cons, List.filterMap_cons, List.filter_cons, filt_strs q l]
    dsimp only
    cases q w <;> rfl
theorem fst_pairs (l : List (Str × Int)) : ((l.map rdD).filterMap fun d => match d with
    | .tup [x, _] => some x
    | _ => none) = (l.map (·.1)).map D.str := by
  rw [List.filterMap_map, List.map_map]
  induction l with
  | nil => rfl
  | cons p l ih =>
    rw [List.filterMap_cons, List.map_cons, ih]
    rfl
def wideF (kd kp kn ko kb : Nat) : Fn := ⟨1, 12, true, [
  .asg 1 (.call ko [.v 0, .tup [.int 4, .int 3, .int 3]]),
  .frz [1],
  .asgT (.t [.n 6, .n 7, .n 8]) (.call kb [.v 0, .v 1, .int 8]),
  .asg 2 (.comp (.v 10) (.t [.n 10, .n 11]) (.v 7) []),
  .asg 3 (.comp (.v 9) (.n 9) (.sl (.call kn [.v 0]) (.non) (.call kd [.v 0, .int 9])) [.cmp .notin (.v 9) (.v 2)]),
  .asg 4 (.lst [.int 0, .int 1, .int 9, .int 10, .int 100, .int 1000, .int 10000, .int 99999, .int 100000, .int 999999, .int 1000000, .int 305070]),
  .frz [3, 4],
  .asg 5 (.comp (.tup [.v 9, .call kp [.v 0, .v 4]]) (.n 9) (.v 3) []),
  .ret (.tup [.v 6, .bi .tuple [.bi .sorted [.bin .add (.bi .list [.v 7]) (.v 5)]], .v 8])]⟩
def fewN : List Int := [0, 1, 9, 10, 100, 1000, 10000, 99999, 100000, 999999, 1000000, 305070]
def PoolsFn (rc : Nat → List D → Sto → Res D) (ko : Nat) (cells : List Int) : Prop := ∀ (b : Int) (S : Sto), StB cells b S → b + 40 ≤ 2 ^ 60 → Wr (rc ko [.obj 0, .tup [.int 4, .int 3, .int 3]] S) fun d S => PoolsOk d ∧ StB cells (b + 40) S
def BookFn (rc : Nat → List D → Sto → Res D) (kb : Nat) (cells : List Int) : Prop := ∀ (b : Int) (S : Sto) (pools : D), StB cells b S → b + 400 ≤ 2 ^ 60 → PoolsOk pools → Wr (rc kb [.obj 0, pools, .int 8] S) fun d S => (∃ k : Bk, d = k.d ∧ BkOk k ∧ k.rates.length ≤ 9) ∧ StB cells (b + 400) S
theorem wide_body {gl : List D} {rc : Nat → List D → Sto → Res D} {kd kp kn ko kb : Nat} {cells : List Int} {b : Int} {S : Sto} (dr : DrawOk rc kd cells) (pk : PickOk rc kp cells) (nf : NamesFn rc kn cells) (pf : PoolsFn rc ko cells) (bf : BookFn rc kb cells) (h : StB cells b S) (hb : b + 600 ≤ 2 ^ 60) {N : Env → Sto → Prop} :
    Wo (evSs gl rc (wideF kd kp kn ko kb).body (startE (wideF kd kp kn ko kb).nl [.obj 0]) S) N fun d S => (∃ k : Bk, d = k.d ∧ BkOk k ∧ k.Rise) ∧ StB cells (b + 600) S := by
  show Wo (evSs gl rc (wideF kd kp kn ko kb).body [some (.obj 0), none, none, none, none, none, none, none, none, none, none, none] S) N _
  unfold wideF
  dsimp only
  rw [wo_cons]
  simp only [evS, evE, evEs, evAn, evOr, wo_outs, wo_nx, wo_rt, wr_bind, wr_ok, wo_ite, wr_ite, wr_lift, wr_tru, someEx, List.length_cons, List.length_nil, List.getElem?_cons_zero, List.getElem?_cons_succ, List.set_cons_zero, List.set_cons_succ, ix_lst, Nat.zero_add, Nat.reduceAdd, slB, isNon, D.isStr, if_true, evSl, evCs, tg_n, tg_t2, tg_t3, tg_t4, Tg.slots, Tg.slotss, wipeE, wr_noexc, Option.map_some, Option.bind_some, reduceIte]
  refine wr_mono (pf _ S h (by omega)) fun pools S1 ⟨po, h1⟩ => ?_
  rw [wo_cons]
  simp only [evS, evE, evEs, evAn, evOr, wo_outs, wo_nx, wo_rt, wr_bind, wr_ok, wo_ite, wr_ite, wr_lift, wr_tru, someEx, List.length_cons, List.length_nil, List.getElem?_cons_zero, List.getElem?_cons_succ, List.set_cons_zero, List.set_cons_succ, ix_lst, Nat.zero_add, Nat.reduceAdd, slB, isNon, D.isStr, if_true, evSl, evCs, tg_n, tg_t2, tg_t3, tg_t4, Tg.slots, Tg.slotss, wipeE, wr_noexc, Option.map_some, Option.bind_some, reduceIte]
  rw [wo_cons]
  simp only [evS, evE, evEs, evAn, evOr, wo_outs, wo_nx, wo_rt, wr_bind, wr_ok, wo_ite, wr_ite, wr_lift, wr_tru, someEx, List.length_cons, List.length_nil, List.getElem?_cons_zero, List.getElem?_cons_succ, List.set_cons_zero, List.set_cons_succ, ix_lst, Nat.zero_add, Nat.reduceAdd, slB, isNon, D.isStr, if_true, evSl, evCs, tg_n, tg_t2, tg_t3, tg_t4, Tg.slots, Tg.slotss, wipeE, wr_noexc, Option.map_some, Option.bind_some, reduceIte]
  refine wr_mono (bf _ S1 pools h1 (by omega) po) fun d2 S2 ⟨⟨k, e2, kok, kl⟩, h2⟩ => ?_
  subst e2
  unfold Bk.d
  simp only [evS, evE, evEs, evAn, evOr, wo_outs, wo_nx, wo_rt, wr_bind, wr_ok, wo_ite, wr_ite, wr_lift, wr_tru, someEx, List.length_cons, List.length_nil, List.getElem?_cons_zero, List.getElem?_cons_succ, List.set_cons_zero, List.set_cons_succ, ix_lst, Nat.zero_add, Nat.reduceAdd, slB, isNon, D.isStr, if_true, evSl, evCs, tg_n, tg_t2, tg_t3, tg_t4, Tg.slots, Tg.slotss, wipeE, wr_noexc, Option.map_some, Option.bind_some, reduceIte]
  rw [wo_cons]
  simp only [evS, evE, evEs, evAn, evOr, wo_outs, wo_nx, wo_rt, wr_bind, wr_ok, wo_ite, wr_ite, wr_lift, wr_tru, someEx, List.length_cons, List.length_nil, List.getElem?_cons_zero, List.getElem?_cons_succ, List.set_cons_zero, List.set_cons_succ, ix_lst, Nat.zero_add, Nat.reduceAdd, slB, isNon, D.isStr, if_true, evSl, evCs, tg_n, tg_t2, tg_t3, tg_t4, Tg.slots, Tg.slotss, wipeE, wr_noexc, Option.map_some, Option.bind_some, reduceIte, items_tup]
  rw [compL_pure (g := fun d => match d with
    | .tup [x, _] => some x
    | _ => none) (fun d hd => by
      obtain ⟨p, _, rfl⟩ := List.mem_map.mp hd
      unfold rdD
      simp only [evS, evE, evEs, evAn, evOr, wo_outs, wo_nx, wo_rt, wr_bind, wr_ok, wo_ite, wr_ite, wr_lift, wr_tru, someEx, List.length_cons, List.length_nil, List.getElem?_cons_zero, List.getElem?_cons_succ, List.set_cons_zero, List.set_cons_succ, ix_lst, Nat.zero_add, Nat.reduceAdd, slB, isNon, D.isStr, if_true, evSl, evCs, tg_n, tg_t2, tg_t3, tg_t4, Tg.slots, Tg.slotss, wipeE, wr_noexc, Option.map_some, Option.bind_some, reduceIte, Res.ok_bind, Res.ok_noexc]
      rfl)]
  rw [fst_pairs]
  simp only [evS, evE, evEs, evAn, evOr, wo_outs, wo_nx, wo_rt, wr_bind, wr_ok, wo_ite, wr_ite, wr_lift, wr_tru, someEx, List.length_cons, List.length_nil, List.getElem?_cons_zero, List.getElem?_cons_succ, List.set_cons_zero, List.set_cons_succ, ix_lst, Nat.zero_add, Nat.reduceAdd, slB, isNon, D.isStr, if_true, evSl, evCs, tg_n, tg_t2, tg_t3, tg_t4, Tg.slots, Tg.slotss, wipeE, wr_noexc, Option.map_some, Option.bind_some, reduceIte]
  rw [wo_cons]
  simp only [evS, evE, evEs, evAn, evOr, wo_outs, wo_nx, wo_rt, wr_bind, wr_ok, wo_ite, wr_ite, wr_lift, wr_tru, someEx, List.length_cons, List.length_nil, List.getElem?_cons_zero, List.getElem?_cons_succ, List.set_cons_zero, List.set_cons_succ, ix_lst, Nat.zero_add, Nat.reduceAdd, slB, isNon, D.isStr, if_true, evSl, evCs, tg_n, tg_t2, tg_t3, tg_t4, Tg.slots, Tg.slotss, wipeE, wr_noexc, Option.map_some, Option.bind_some, reduceIte]
  refine wr_mono (nf _ S2 h2 (by omega)) fun d3 S3 ⟨⟨ws, e3, lw, nw, ndw⟩, h3⟩ => ?_
  subst e3
  simp only [evS, evE, evEs, evAn, evOr, wo_outs, wo_nx, wo_rt, wr_bind, wr_ok, wo_ite, wr_ite, wr_lift, wr_tru, someEx, List.length_cons, List.length_nil, List.getElem?_cons_zero, List.getElem?_cons_succ, List.set_cons_zero, List.set_cons_succ, ix_lst, Nat.zero_add, Nat.reduceAdd, slB, isNon, D.isStr, if_true, evSl, evCs, tg_n, tg_t2, tg_t3, tg_t4, Tg.slots, Tg.slotss, wipeE, wr_noexc, Option.map_some, Option.bind_some, reduceIte]
  refine wr_mono (dr _ S3 9 h3 (by omega) (by decide) (by decide)) fun d4 S4 ⟨n, e4, n0, n1, h4⟩ => ?_
  subst e4
  simp only [evS, evE, evEs, evAn, evOr, wo_outs, wo_nx, wo_rt, wr_bind, wr_ok, wo_ite, wr_ite, wr_lift, wr_tru, someEx, List.length_cons, List.length_nil, List.getElem?_cons_zero, List.getElem?_cons_succ, List.set_cons_zero, List.set_cons_succ, ix_lst, Nat.zero_add, Nat.reduceAdd, slB, isNon, D.isStr, if_true, evSl, evCs, tg_n, tg_t2, tg_t3, tg_t4, Tg.slots, Tg.slotss, wipeE, wr_noexc, Option.map_some, Option.bind_some, reduceIte]
  rw [cut_to _ n0, ← List.map_take]
  simp only [items_lst, evS, evE, evEs, evAn, evOr, wo_outs, wo_nx, wo_rt, wr_bind, wr_ok, wo_ite, wr_ite, wr_lift, wr_tru, someEx, List.length_cons, List.length_nil, List.getElem?_cons_zero, List.getElem?_cons_succ, List.set_cons_zero, List.set_cons_succ, ix_lst, Nat.zero_add, Nat.reduceAdd, slB, isNon, D.isStr, if_true, evSl, evCs, tg_n, tg_t2, tg_t3, tg_t4, Tg.slots, Tg.slotss, wipeE, wr_noexc, Option.map_some, Option.bind_some, reduceIte]
  rw [compL_pure (g := fun d => match d with
    | .str w => if !((k.rates.map (·.1)).any fun z => z == w) then some d else none
    | _ => none) (fun d hd => by
      obtain ⟨w, _, rfl⟩ := List.mem_map.mp hd
      simp only [Res.ok_bind, notin_strs, lift_some]
      cases (k.rates.map (·.1)).any fun z => z == w <;> rfl)]
  rw [filt_strs]
  simp only [evS, evE, evEs, evAn, evOr, wo_outs, wo_nx, wo_rt, wr_bind, wr_ok, wo_ite, wr_ite, wr_lift, wr_tru, someEx, List.length_cons, List.length_nil, List.getElem?_cons_zero, List.getElem?_cons_succ, List.set_cons_zero, List.set_cons_succ, ix_lst, Nat.zero_add, Nat.reduceAdd, slB, isNon, D.isStr, if_true, evSl, evCs, tg_n, tg_t2, tg_t3, tg_t4, Tg.slots, Tg.slotss, wipeE, wr_noexc, Option.map_some, Option.bind_some, reduceIte]
  rw [wo_cons]
  simp only [evS, evE, evEs, evAn, evOr, wo_outs, wo_nx, wo_rt, wr_bind, wr_ok, wo_ite, wr_ite, wr_lift, wr_tru, someEx, List.length_cons, List.length_nil, List.getElem?_cons_zero, List.getElem?_cons_succ, List.set_cons_zero, List.set_cons_succ, ix_lst, Nat.zero_add, Nat.reduceAdd, slB, isNon, D.isStr, if_true, evSl, evCs, tg_n, tg_t2, tg_t3, tg_t4, Tg.slots, Tg.slotss, wipeE, wr_noexc, Option.map_some, Option.bind_some, reduceIte]
  rw [wo_cons]
  simp only [evS, evE, evEs, evAn, evOr, wo_outs, wo_nx, wo_rt, wr_bind, wr_ok, wo_ite, wr_ite, wr_lift, wr_tru, someEx, List.length_cons, List.length_nil, List.getElem?_cons_zero, List.getElem?_cons_succ, List.set_cons_zero, List.set_cons_succ, ix_lst, Nat.zero_add, Nat.reduceAdd, slB, isNon, D.isStr, if_true, evSl, evCs, tg_n, tg_t2, tg_t3, tg_t4, Tg.slots, Tg.slotss, wipeE, wr_noexc, Option.map_some, Option.bind_some, reduceIte]
  rw [wo_cons]
  simp only [evS, evE, evEs, evAn, evOr, wo_outs, wo_nx, wo_rt, wr_bind, wr_ok, wo_ite, wr_ite, wr_lift, wr_tru, someEx, List.length_cons, List.length_nil, List.getElem?_cons_zero, List.getElem?_cons_succ, List.set_cons_zero, List.set_cons_succ, ix_lst, Nat.zero_add, Nat.reduceAdd, slB, isNon, D.isStr, if_true, evSl, evCs, tg_n, tg_t2, tg_t3, tg_t4, Tg.slots, Tg.slotss, wipeE, wr_noexc, Option.map_some, Option.bind_some, reduceIte, items_lst]
  have ef : ([.int 0, .int 1, .int 9, .int 10, .int 100, .int 1000, .int 10000, .int 99999, .int 100000, .int 999999, .int 1000000, .int 305070] : List D) = fewN.map D.int := rfl
  rw [ef]
  have lm : ((ws.take n.toNat).filter fun w => !((k.rates.map (·.1)).any fun z => z == w)).length ≤ 8 := by
    refine Nat.le_trans (List.length_filter_le _ _) ?_
    rw [List.length_take]
    omega
  refine wr_map (I := fun i S => StB cells (b + 481 + i) S) (P := fun _ d y => ∃ (w : Str) (x : Int), d = .str w ∧ y = rdD (w, x) ∧ 0 ≤ x ∧ x ≤ 1000000) (k := 0) (h4.up (by omega)) (fun i d S hd hi => ?_) fun extra S5 h5 lex pex => ?_
  · obtain ⟨w, _, rfl⟩ := List.mem_map.mp (List.mem_of_getElem? hd)
    have lt : i < 8 := by
      have := (List.getElem?_eq_some_iff.mp hd).1
      rw [List.length_map] at this
      omega
    simp only [evS, evE, evEs, evAn, evOr, wo_outs, wo_nx, wo_rt, wr_bind, wr_ok, wo_ite, wr_ite, wr_lift, wr_tru, someEx, List.length_cons, List.length_nil, List.getElem?_cons_zero, List.getElem?_cons_succ, List.set_cons_zero, List.set_cons_succ, ix_lst, Nat.zero_add, Nat.reduceAdd, slB, isNon, D.isStr, if_true, evSl, evCs, tg_n, tg_t2, tg_t3, tg_t4, Tg.slots, Tg.slotss, wipeE, wr_noexc, Option.map_some, Option.bind_some, reduceIte]
    refine wr_mono (pk _ S (fewN.map .int) hi (by omega) (by decide) (by decide)) fun d6 S6 ⟨m6, h6⟩ => ?_
    obtain ⟨x, mx, rfl⟩ := List.mem_map.mp m6
    have fx : ∀ x ∈ fewN, 0 ≤ x ∧ x ≤ 1000000 := by decide
    exact ⟨h6.up (by omega), w, x, rfl, rfl, fx x mx⟩
  · generalize hmore : (ws.take n.toNat).filter (fun w => !((k.rates.map (·.1)).any fun z => z == w)) = more at lm h5 lex pex ⊢
    rw [List.length_map] at h5 lex
    obtain ⟨ps, rfl, lps, pps⟩ := unmapP (f := rdD) (P := fun i p => more[i]? = some p.1 ∧ 0 ≤ p.2 ∧ p.2 ≤ 1000000) (r := extra) (fun i y hy => by
      have lt : i < more.length := by
        rw [← lex]
        exact (List.getElem?_eq_some_iff.mp hy).1
      obtain ⟨w, x, e1, e2, e3⟩ := pex i (.str more[i]) y (by rw [List.getElem?_map, List.getElem?_eq_getElem lt]; rfl) hy
      cases e1
      exact ⟨(more[i], x), e2, List.getElem?_eq_getElem lt, e3⟩)
    have pm : ps.map (·.1) = more := by
      refine List.ext_getElem? fun j => ?_
      rw [List.getElem?_map]
      by_cases hj : j < ps.length
      · rw [List.getElem?_eq_getElem hj, (pps j _ (List.getElem?_eq_getElem hj)).1]
        rfl
      · rw [List.getElem?_eq_none (by omega), List.getElem?_eq_none (by omega)]
        rfl
    have lps2 : ps.length ≤ 8 := by omega
    rw [wo_cons]
    obtain ⟨bs, sp, sw, es⟩ := sorted_pairs (as := k.rates ++ ps)
    have el : evBi .list [.tup (k.rates.map rdD)] = some (.lst (k.rates.map rdD)) := rfl
    have ea : evBin .add (.lst (k.rates.map rdD)) (.lst (ps.map rdD)) = some (.lst ((k.rates ++ ps).map rdD)) := by
      rw [add_lst (by rw [List.length_map, List.length_map]; unfold sizeLine; omega), List.map_append]
    simp only [evS, evE, evEs, evAn, evOr, wo_outs, wo_nx, wo_rt, wr_bind, wr_ok, wo_ite, wr_ite, wr_lift, wr_tru, someEx, List.length_cons, List.length_nil, List.getElem?_cons_zero, List.getElem?_cons_succ, List.set_cons_zero, List.set_cons_succ, ix_lst, Nat.zero_add, Nat.reduceAdd, slB, isNon, D.isStr, if_true, evSl, evCs, tg_n, tg_t2, tg_t3, tg_t4, Tg.slots, Tg.slotss, wipeE, wr_noexc, Option.map_some, Option.bind_some, reduceIte, el, ea, es, evTupL]
    have mm : ∀ w ∈ more, w ∈ ws ∧ w ∉ k.rates.map (·.1) := fun w hw => by
      rw [← hmore] at hw
      obtain ⟨a, c⟩ := List.mem_filter.mp hw
      refine ⟨List.mem_of_mem_take a, fun z => ?_⟩
      have : ((k.rates.map (·.1)).any fun z => z == w) = true := List.any_eq_true.mpr ⟨w, z, beq_self_eq_true w⟩
      rw [this] at c
      cases c
    have em : (bs.map (·.1)).Perm (k.rates.map (·.1) ++ more) := by
      have := sp.map (·.1)
      rw [List.map_append, pm] at this
      exact this
    have ndb : (bs.map (·.1)).Nodup := by
      refine em.nodup_iff.mpr (List.nodup_append.mpr ⟨kok.nodup, ?_, fun x hx y hy e => (mm y hy).2 (e ▸ hx)⟩)
      rw [← hmore]
      exact (List.filter_sublist.trans (List.take_sublist _ _)).nodup ndw
    have rise : (Bk.mk k.base bs k.rules).Rise := by
      have nd2 : bs.Pairwise fun p q => p.1 ≠ q.1 := List.pairwise_map.mp ndb
      exact (sw.and nd2).imp fun ⟨h1, h2⟩ => h1.elim id fun z => absurd z.1 h2
    refine ⟨⟨⟨k.base, bs, k.rules⟩, rfl, ⟨?_, fun p hp => ?_, ndb, ?_, kok.rules, kok.rnodup, fun r hr => ⟨(kok.rok r hr).1, (kok.rok r hr).2.1, ?_⟩⟩, rise⟩, h5.up (by omega)⟩
    · exact em.mem_iff.mpr (List.mem_append_left _ kok.base)
    · rcases List.mem_append.mp (sp.mem_iff.mp hp) with q | q
      · exact kok.names p q
      · obtain ⟨j, hj⟩ := List.mem_iff_getElem?.mp q
        obtain ⟨a, c⟩ := pps j p hj
        exact ⟨nw _ (mm _ (List.mem_of_getElem? a)).1, c⟩
    · have := sp.length_eq
      rw [List.length_append] at this
      show bs.length ≤ 21
      omega
    · exact em.mem_iff.mpr (List.mem_append_left _ (kok.rok r hr).2.2)
theorem wide_ok2 {P : Prog} {n kw ko kb kn kr kc kd kp : Nat} {cells : List Int} {b : Int} {S : Sto} (hw : P.fns[kw]? = some (wideF kd kp kn ko kb)) (ho : P.fns[ko]? = some (poolsF kd)) (hk : P.fns[kb]? = some (bookF kd kp kn kr)) (hn : P.fns[kn]? = some (namesF kd)) (hr : P.fns[kr]? = some (rulesF kd kp kc)) (hc : P.fns[kc]? = some (condF kd kp)) (hp : P.fns[kp]? = some (pickF kd)) (hd : P.fns[kd]? = some drawF)
    (h : StB cells b S) (hb : b + 600 ≤ 2 ^ 60) : Wr (run P (n + 6) kw [.obj 0] S) fun d S => (∃ k : Bk, d = k.d ∧ BkOk k ∧ k.Rise) ∧ StB cells (b + 600) S :=
  wr_run hw rfl (wo_mono (wide_body (draw_ok hd) (pick_ok hp hd) (fun b S h hb => names_ok hn hd h hb) (fun b S h hb => pools_ok ho hd h hb) (fun b S pools h hb po => book_ok hk hn hr hc hp hd h hb po) h hb (N := fun _ _ => False)) (fun _ _ z => z.elim) fun _ _ z => z)
theorem wide_ok {P : Prog} {n kw ko kb kn kr kc kd kp : Nat} {cells : List Int} {b : Int} {S : Sto} (hw : P.fns[kw]? = some (wideF kd kp kn ko kb)) (ho : P.fns[ko]? = some (poolsF kd)) (hk : P.fns[kb]? = some (bookF kd kp kn kr)) (hn : P.fns[kn]? = some (namesF kd)) (hr : P.fns[kr]? = some (rulesF kd kp kc)) (hc : P.fns[kc]? = some (condF kd kp)) (hp : P.fns[kp]? = some (pickF kd)) (hd : P.fns[kd]? = some drawF)
    (h : StB cells b S) (hb : b + 600 ≤ 2 ^ 60) : Wr (run P (n + 6) kw [.obj 0] S) fun d S => (∃ k : Bk, d = k.d ∧ BkOk k) ∧ StB cells (b + 600) S :=
  wr_mono (wide_ok2 hw ho hk hn hr hc hp hd h hb) fun d S ⟨⟨k, e, ok, _⟩, h⟩ => ⟨⟨k, e, ok⟩, h⟩
end VE

set_option Elab.async false
set_option linter.all false
set_option maxRecDepth 100000
set_option maxHeartbeats 4000000
/-! VL, part 8: clocks and conditions as texts. -/
namespace VE
open PySem PySem.Spec PyProof.Rows L2

theorem wr_eq {α : Type} {r : Res α} {x : α} {S : Sto} (h : Wr r fun a S' => a = x ∧ S' = S) : r = .ok x S := by
  obtain ⟨a, S', e, rfl, rfl⟩ := wr_get h
  exact e
/-- a function that only tells -/
theorem run_eq {P : Prog} {n f : Nat} {F : Fn} {ds : List D} {S : Sto} {x : D} (hf : P.fns[f]? = some F) (hl : ds.length = F.np) (h : Wo (evSs P.gl (run P n) F.body (startE F.nl ds) S) (fun _ _ => False) fun d S' => d = x ∧ S' = S) : run P (n + 1) f ds S = .ok x S :=
  wr_eq (wr_run hf hl (wo_mono h (fun _ _ z => z.elim) fun _ _ z => z))
def sT (n : Int) : Str := Str.ofString (toString n)
theorem str_int {i : Int} (h0 : 0 ≤ i) (h1 : i < 2 ^ 60) : evBi .str [.int i] = some (.str (sT i)) := by
  show (if i.natAbs.log2 < 1920 then some (D.str (sT i)) else none) = _
  refine if_pos ?_
  by_cases z : i.natAbs = 0
  · rw [z]
    decide
  · exact Nat.lt_of_lt_of_le ((Nat.log2_lt z).mpr (show i.natAbs < 2 ^ 60 by omega)) (by decide)
theorem str_str (s : Str) : evBi .str [.str s] = some (.str s) := rfl
theorem sT_len {i : Int} (h0 : 0 ≤ i) (h1 : i < 10 ^ 7) : (sT i).length ≤ 7 := toString_length_le h0 (by decide) h1
def two (n : Int) : Str := sT (n / 10) ++ sT (n % 10)
def clT (c : Int) : Str := (two (c / 60) ++ ":") ++ two (c % 60)
theorem two_len {n : Int} (h0 : 0 ≤ n) (h1 : n < 100) : (two n).length ≤ 14 := by
  unfold two
  rw [Str.length_append]
  have a := sT_len (i := n / 10) (by omega) (by omega)
  have b := sT_len (i := n % 10) (by omega) (by omega)
  omega
theorem two_cutN : ∀ n : Nat, n < 100 → cutS (sT (100 + (n : Int))) (some 1) none = sT ((n : Int) / 10) ++ sT ((n : Int) % 10) := by decide +kernel
theorem two_cut {n : Int} (h0 : 0 ≤ n) (h1 : n < 100) : cutS (sT (100 + n)) (some 1) none = two n := by
  have := two_cutN n.toNat (by omega)
  have e : ((n.toNat : Nat) : Int) = n := by omega
  rw [e] at this
  exact this
theorem clT_len {c : Int} (h0 : 0 ≤ c) (h1 : c < 1440) : (clT c).length ≤ 29 := by
  unfold clT
  rw [Str.length_append, Str.length_append]
  have a := two_len (n := c / 60) (by omega) (by omega)
  have b := two_len (n := c % 60) (by omega) (by omega)
  have : (Str.ofString ":").length = 1 := rfl
  omega
def twoF : Fn := ⟨1, 1, true, [
  .ret (.bin .add (.bi .str [.bin .fdiv (.v 0) (.int 10)]) (.bi .str [.bin .mod (.v 0) (.int 10)]))]⟩
def clockF (k2 : Nat) : Fn := ⟨1, 1, true, [
  .ret (.bin .add (.bin .add (.call k2 [.bin .fdiv (.v 0) (.int 60)]) (.str ":")) (.call k2 [.bin .mod (.v 0) (.int 60)]))]⟩
def lclockF : Fn := ⟨1, 1, true, [
  .ret (.bin .add (.bin .add (.sl (.bi .str [.bin .add (.int 100) (.bin .fdiv (.v 0) (.int 60))]) (.int 1) (.non)) (.str ":")) (.sl (.bi .str [.bin .add (.int 100) (.bin .mod (.v 0) (.int 60))]) (.int 1) (.non)))]⟩
theorem two_ok {P : Prog} {n k2 : Nat} {x : Int} {S : Sto} (h2 : P.fns[k2]? = some twoF) (h0 : 0 ≤ x) (h1 : x < 100) : run P (n + 1) k2 [.int x] S = .ok (.str (two x)) S := by
  refine run_eq h2 rfl ?_
  show Wo (evSs P.gl (run P n) twoF.body [some (.int x)] S) _ _
  unfold twoF
  dsimp only
  rw [wo_cons]
  have a := sT_len (i := x / 10) (by omega) (by omega)
  have b := sT_len (i := x % 10) (by omega) (by omega)
  simp only [evS, evE, evEs, evAn, evOr, wo_outs, wo_nx, wo_rt, wr_bind, wr_ok, wo_ite, wr_ite, wr_lift, wr_tru, someEx, List.length_cons, List.length_nil, List.getElem?_cons_zero, List.getElem?_cons_succ, List.set_cons_zero, List.set_cons_succ, ix_lst, Nat.zero_add, Nat.reduceAdd, slB, isNon, D.isStr, if_true, evSl, evCs, tg_n, tg_t2, tg_t3, tg_t4, Tg.slots, Tg.slotss, wipeE, wr_noexc, Option.map_some, Option.bind_some, reduceIte, fdiv_int (show (0 : Int) < 10 by decide) (show (10 : Int) < 1073741824 by decide), mod_int (show (0 : Int) < 10 by decide), str_int (show 0 ≤ x / 10 by omega) (show x / 10 < 2 ^ 60 by omega), str_int (show 0 ≤ x % 10 by omega) (show x % 10 < 2 ^ 60 by omega), add_str (show (sT (x / 10)).length + (sT (x % 10)).length ≤ sizeLine by unfold sizeLine; omega)]
  exact ⟨rfl, trivial⟩
theorem clock_ok {P : Prog} {n k1 k2 : Nat} {x : Int} {S : Sto} (h1 : P.fns[k1]? = some (clockF k2)) (h2 : P.fns[k2]? = some twoF) (x0 : 0 ≤ x) (x1 : x < 1440) : run P (n + 2) k1 [.int x] S = .ok (.str (clT x)) S := by
  refine run_eq h1 rfl ?_
  show Wo (evSs P.gl (run P (n + 1)) (clockF k2).body [some (.int x)] S) _ _
  unfold clockF
  dsimp only
  rw [wo_cons]
  have a := two_len (n := x / 60) (by omega) (by omega)
  have b := two_len (n := x % 60) (by omega) (by omega)
  have c : (Str.ofString ":").length = 1 := rfl
  simp only [evS, evE, evEs, evAn, evOr, wo_outs, wo_nx, wo_rt, wr_bind, wr_ok, wo_ite, wr_ite, wr_lift, wr_tru, someEx, List.length_cons, List.length_nil, List.getElem?_cons_zero, List.getElem?_cons_succ, List.set_cons_zero, List.set_cons_succ, ix_lst, Nat.zero_add, Nat.reduceAdd, slB, isNon, D.isStr, if_true, evSl, evCs, tg_n, tg_t2, tg_t3, tg_t4, Tg.slots, Tg.slotss, wipeE, wr_noexc, Option.map_some, Option.bind_some, reduceIte, fdiv_int (show (0 : Int) < 60 by decide) (show (60 : Int) < 1073741824 by decide), mod_int (show (0 : Int) < 60 by decide), two_ok h2 (show 0 ≤ x / 60 by omega) (show x / 60 < 100 by omega), two_ok h2 (show 0 ≤ x % 60 by omega) (show x % 60 < 100 by omega), add_str (show (two (x / 60)).length + (Str.ofString ":").length ≤ sizeLine by unfold sizeLine; omega),
    add_str (show (two (x / 60) ++ Str.ofString ":").length + (two (x % 60)).length ≤ sizeLine by rw [Str.length_append]; unfold sizeLine; omega)]
  exact ⟨rfl, trivial⟩
theorem lclock_ok {P : Prog} {n k1 : Nat} {x : Int} {S : Sto} (h1 : P.fns[k1]? = some lclockF) (x0 : 0 ≤ x) (x1 : x < 1440) : run P (n + 1) k1 [.int x] S = .ok (.str (clT x)) S := by
  refine run_eq h1 rfl ?_
  show Wo (evSs P.gl (run P n) lclockF.body [some (.int x)] S) _ _
  unfold lclockF
  dsimp only
  rw [wo_cons]
  have a := two_len (n := x / 60) (by omega) (by omega)
  have b := two_len (n := x % 60) (by omega) (by omega)
  have c : (Str.ofString ":").length = 1 := rfl
  simp only [evS, evE, evEs, evAn, evOr, wo_outs, wo_nx, wo_rt, wr_bind, wr_ok, wo_ite, wr_ite, wr_lift, wr_tru, someEx, List.length_cons, List.length_nil, List.getElem?_cons_zero, List.getElem?_cons_succ, List.set_cons_zero, List.set_cons_succ, ix_lst, Nat.zero_add, Nat.reduceAdd, slB, isNon, D.isStr, if_true, evSl, evCs, tg_n, tg_t2, tg_t3, tg_t4, Tg.slots, Tg.slotss, wipeE, wr_noexc, Option.map_some, Option.bind_some, reduceIte, add_int, fdiv_int (show (0 : Int) < 60 by decide) (show (60 : Int) < 1073741824 by decide), mod_int (show (0 : Int) < 60 by decide), str_int (show 0 ≤ 100 + x / 60 by omega) (show 100 + x / 60 < 2 ^ 60 by omega), str_int (show 0 ≤ 100 + x % 60 by omega) (show 100 + x % 60 < 2 ^ 60 by omega), two_cut (show 0 ≤ x / 60 by omega) (show x / 60 < 100 by omega), two_cut (show 0 ≤ x % 60 by omega) (show x % 60 < 100 by omega),
    add_str (show (two (x / 60)).length + (Str.ofString ":").length ≤ sizeLine by unfold sizeLine; omega),
    add_str (show (two (x / 60) ++ Str.ofString ":").length + (two (x % 60)).length ≤ sizeLine by rw [Str.length_append]; unfold sizeLine; omega)]
  exact ⟨rfl, trivial⟩
end VE

set_option Elab.async false
set_option linter.all false
set_option maxRecDepth 100000
set_option maxHeartbeats 4000000
/-! VL, part 9: the words of a condition. -/
namespace VE
open PySem PySem.Spec PyProof.Rows L2

def daysT (ns : List Int) : Str := Txt.join "" (ns.map sT)
def Cn.ws : Cn → List Str
  | .feast => ["feast"]
  | .days ns => ["days", daysT ns]
  | .clock a b => ["clock", clT a, clT b]
  | .num w n => [w, sT n]
theorem sum_le {l : List Nat} {k : Nat} (h : ∀ x ∈ l, x ≤ k) : l.sum ≤ l.length * k := by
  induction l with
  | nil => simp
  | cons x l ih =>
    rw [List.sum_cons, List.length_cons, Nat.add_mul]
    have a := ih fun y hy => h y (List.mem_cons_of_mem _ hy)
    have b := h x List.mem_cons_self
    omega
theorem join_few {s : Str} {ws : List Str} {k : Nat} (h : ∀ w ∈ ws, w.length ≤ k) (hk : ws.length * (k + s.length) ≤ 16777216) : evMe .join (.str s) [.lst (ws.map .str)] = some (.str (Txt.join s ws)) := by
  refine join_ev ?_
  have a : (ws.map (·.length)).sum ≤ (ws.map (·.length)).length * k := sum_le fun x hx => by
    obtain ⟨w, hw, rfl⟩ := List.mem_map.mp hx
    exact h w hw
  rw [List.length_map] at a
  rw [Nat.mul_add] at hk
  omega
theorem join_len {s : Str} {ws : List Str} {k : Nat} (h : ∀ w ∈ ws, w.length ≤ k) : (Txt.join s ws).length ≤ ws.length * (k + s.length) := by
  have a : (ws.map (·.length)).sum ≤ (ws.map (·.length)).length * k := sum_le fun x hx => by
    obtain ⟨w, hw, rfl⟩ := List.mem_map.mp hx
    exact h w hw
  rw [List.length_map] at a
  have b := StrLaws.join_length_le s ws
  rw [TL.join_eq, Nat.mul_add]
  omega
theorem days_len {ns : List Int} (h : (Cn.days ns).Ok) : (daysT ns).length ≤ 49 := by
  have := join_len (s := "") (ws := ns.map sT) (k := 7) fun w hw => by
    obtain ⟨x, hx, rfl⟩ := List.mem_map.mp hw
    obtain ⟨x0, x1⟩ := h.2.2.2 x hx
    exact sT_len x0 (by omega)
  have e : (Str.ofString "").length = 0 := rfl
  rw [List.length_map, e] at this
  have l := h.2.1
  unfold daysT
  omega
theorem ws_len {c : Cn} (h : c.Ok) : c.ws.length ≤ 3 ∧ ∀ w ∈ c.ws, w.length ≤ 49 := by
  cases c with
  | feast => exact ⟨by decide, fun w hw => by
      rw [List.mem_singleton.mp hw]
      decide⟩
  | days ns => exact ⟨(by decide : 2 ≤ 3), fun w hw => by
      have : w = "days" ∨ w = daysT ns := by simpa [Cn.ws] using hw
      rcases this with e | e <;> subst e
      · decide
      · exact days_len h⟩
  | clock a b => exact ⟨(by decide : 3 ≤ 3), fun w hw => by
      have : w = "clock" ∨ w = clT a ∨ w = clT b := by simpa [Cn.ws] using hw
      rcases this with e | e | e <;> subst e
      · decide
      · exact Nat.le_trans (clT_len h.1 h.2.1) (by decide)
      · exact Nat.le_trans (clT_len h.2.2.1 h.2.2.2.1) (by decide)⟩
  | num w n => exact ⟨(by decide : 2 ≤ 3), fun v hv => by
      have : v = w ∨ v = sT n := by simpa [Cn.ws] using hv
      rcases this with e | e
      · subst e
        rcases h with ⟨e, _⟩ | ⟨e, _⟩ <;> subst e <;> decide
      · subst e
        have : 1 ≤ n ∧ n ≤ 10080 := by rcases h with ⟨_, a, b⟩ | ⟨_, a, b⟩ <;> omega
        exact Nat.le_trans (sT_len (by omega) (by omega)) (by decide)⟩
def wordsF (k1 : Nat) : Fn := ⟨1, 4, true, [
  .iff (.cmp .eq (.ix (.v 0) (.int 0)) (.str "clock")) [.ret (.bin .add (.lst [.str "clock"]) (.comp (.call k1 [.v 2]) (.n 2) (.sl (.v 0) (.int 1) (.non)) []))] [],
  .iff (.cmp .eq (.ix (.v 0) (.int 0)) (.str "days")) [.ret (.lst [.str "days", .me .join (.str "") [.comp (.bi .str [.v 3]) (.n 3) (.ix (.v 0) (.int 1)) []]])] [],
  .ret (.bin .add (.lst [.ix (.v 0) (.int 0)]) (.comp (.bi .str [.v 1]) (.n 1) (.sl (.v 0) (.int 1) (.non)) []))]⟩
def lwordsF (k1 : Nat) : Fn := ⟨1, 3, true, [
  .iff (.cmp .eq (.ix (.v 0) (.int 0)) (.str "clock")) [.ret (.lst [.str "clock", .call k1 [.ix (.v 0) (.int 1)], .call k1 [.ix (.v 0) (.int 2)]])] [],
  .iff (.cmp .eq (.ix (.v 0) (.int 0)) (.str "days")) [.ret (.lst [.str "days", .me .join (.str "") [.comp (.bi .str [.v 2]) (.n 2) (.ix (.v 0) (.int 1)) []]])] [],
  .ret (.comp (.bi .str [.v 1]) (.n 1) (.v 0) [])]⟩
theorem num_ne {w : Str} {n : Int} (h : (Cn.num w n).Ok) : (w == "clock") = false ∧ (w == "days") = false ∧ 1 ≤ n ∧ n ≤ 10080 := by
  rcases h with ⟨rfl, a, b⟩ | ⟨rfl, a, b⟩
  · exact ⟨rfl, rfl, a, by omega⟩
  · exact ⟨rfl, rfl, a, b⟩
def gI : D → Option D
  | .int x => some (.str (sT x))
  | .str w => some (.str w)
  | _ => none
theorem gI_map : ∀ ns : List Int, (ns.map D.int).filterMap gI = (ns.map sT).map D.str
  | [] => rfl
  | x :: l => by
    rw [List.map_cons, List.filterMap_cons, gI_map l]
    rfl
def gC : D → Option D
  | .int x => some (.str (clT x))
  | _ => none
theorem ix_tup (xs : List D) (i : Int) : evIx (.tup xs) (.int i) = atI xs i := rfl
theorem at0 (x : D) (l : List D) : atI (x :: l) 0 = some x := by
  refine atI_nat (by decide) rfl
theorem at1 (x y : D) (l : List D) : atI (x :: y :: l) 1 = some y := by
  refine atI_nat (by decide) rfl
theorem at2 (x y z : D) (l : List D) : atI (x :: y :: z :: l) 2 = some z := by
  refine atI_nat (by decide) rfl
theorem cut1 (x : D) (l : List D) : cutD (x :: l) (some 1) none = l := cut_from _ (by decide)
theorem w1 : (Str.ofString "feast" == Str.ofString "clock") = false := rfl
theorem w2 : (Str.ofString "feast" == Str.ofString "days") = false := rfl
theorem w3 : (Str.ofString "days" == Str.ofString "clock") = false := rfl
theorem w4 : (Str.ofString "days" == Str.ofString "days") = true := rfl
theorem w5 : (Str.ofString "clock" == Str.ofString "clock") = true := rfl
theorem words_body {P : Prog} {n kw k1 k2 : Nat} {c : Cn} {S : Sto} (hw : P.fns[kw]? = some (wordsF k1)) (h1 : P.fns[k1]? = some (clockF k2)) (h2 : P.fns[k2]? = some twoF) (ok : c.Ok) : run P (n + 3) kw [c.d] S = .ok (.lst (c.ws.map .str)) S := by
  refine run_eq hw rfl ?_
  show Wo (evSs P.gl (run P (n + 2)) (wordsF k1).body [some c.d, none, none, none] S) _ _
  unfold wordsF
  dsimp only
  cases c with
  | feast =>
    unfold Cn.d
    rw [wo_cons]
    simp only [evS, evE, evEs, evAn, evOr, wo_outs, wo_nx, wo_rt, wr_bind, wr_ok, wo_ite, wr_ite, wr_lift, wr_tru, someEx, List.length_cons, List.length_nil, List.getElem?_cons_zero, List.getElem?_cons_succ, List.set_cons_zero, List.set_cons_succ, ix_lst, Nat.zero_add, Nat.reduceAdd, slB, isNon, D.isStr, if_true, evSl, evCs, tg_n, tg_t2, tg_t3, tg_t4, Tg.slots, Tg.slotss, wipeE, wr_noexc, Option.map_some, Option.bind_some, reduceIte, ix_tup, at0, eq_str, w1, wo_nil, Bool.false_eq_true]
    rw [wo_cons]
    simp only [evS, evE, evEs, evAn, evOr, wo_outs, wo_nx, wo_rt, wr_bind, wr_ok, wo_ite, wr_ite, wr_lift, wr_tru, someEx, List.length_cons, List.length_nil, List.getElem?_cons_zero, List.getElem?_cons_succ, List.set_cons_zero, List.set_cons_succ, ix_lst, Nat.zero_add, Nat.reduceAdd, slB, isNon, D.isStr, if_true, evSl, evCs, tg_n, tg_t2, tg_t3, tg_t4, Tg.slots, Tg.slotss, wipeE, wr_noexc, Option.map_some, Option.bind_some, reduceIte, ix_tup, at0, eq_str, w2, wo_nil, Bool.false_eq_true]
    rw [wo_cons]
    simp only [evS, evE, evEs, evAn, evOr, wo_outs, wo_nx, wo_rt, wr_bind, wr_ok, wo_ite, wr_ite, wr_lift, wr_tru, someEx, List.length_cons, List.length_nil, List.getElem?_cons_zero, List.getElem?_cons_succ, List.set_cons_zero, List.set_cons_succ, ix_lst, Nat.zero_add, Nat.reduceAdd, slB, isNon, D.isStr, if_true, evSl, evCs, tg_n, tg_t2, tg_t3, tg_t4, Tg.slots, Tg.slotss, wipeE, wr_noexc, Option.map_some, Option.bind_some, reduceIte, ix_tup, at0, cut1, items_tup, compL]
    exact ⟨_, add_lst (by decide), rfl, trivial⟩
  | days ns =>
    unfold Cn.d
    rw [wo_cons]
    simp only [evS, evE, evEs, evAn, evOr, wo_outs, wo_nx, wo_rt, wr_bind, wr_ok, wo_ite, wr_ite, wr_lift, wr_tru, someEx, List.length_cons, List.length_nil, List.getElem?_cons_zero, List.getElem?_cons_succ, List.set_cons_zero, List.set_cons_succ, ix_lst, Nat.zero_add, Nat.reduceAdd, slB, isNon, D.isStr, if_true, evSl, evCs, tg_n, tg_t2, tg_t3, tg_t4, Tg.slots, Tg.slotss, wipeE, wr_noexc, Option.map_some, Option.bind_some, reduceIte, ix_tup, at0, eq_str, w3, wo_nil, Bool.false_eq_true]
    rw [wo_cons]
    simp only [evS, evE, evEs, evAn, evOr, wo_outs, wo_nx, wo_rt, wr_bind, wr_ok, wo_ite, wr_ite, wr_lift, wr_tru, someEx, List.length_cons, List.length_nil, List.getElem?_cons_zero, List.getElem?_cons_succ, List.set_cons_zero, List.set_cons_succ, ix_lst, Nat.zero_add, Nat.reduceAdd, slB, isNon, D.isStr, if_true, evSl, evCs, tg_n, tg_t2, tg_t3, tg_t4, Tg.slots, Tg.slotss, wipeE, wr_noexc, Option.map_some, Option.bind_some, reduceIte, ix_tup, at0, eq_str, w4, wo_nil]
    rw [wo_cons]
    simp only [evS, evE, evEs, evAn, evOr, wo_outs, wo_nx, wo_rt, wr_bind, wr_ok, wo_ite, wr_ite, wr_lift, wr_tru, someEx, List.length_cons, List.length_nil, List.getElem?_cons_zero, List.getElem?_cons_succ, List.set_cons_zero, List.set_cons_succ, ix_lst, Nat.zero_add, Nat.reduceAdd, slB, isNon, D.isStr, if_true, evSl, evCs, tg_n, tg_t2, tg_t3, tg_t4, Tg.slots, Tg.slotss, wipeE, wr_noexc, Option.map_some, Option.bind_some, reduceIte, ix_tup, at1, items_tup]
    rw [compL_pure (g := gI) (fun d hd => by
      obtain ⟨x, hx, rfl⟩ := List.mem_map.mp hd
      obtain ⟨x0, x1⟩ := ok.2.2.2 x hx
      simp only [Res.ok_bind, str_int x0 (show x < 2 ^ 60 by omega), lift_some]
      rfl)]
    rw [gI_map]
    simp only [evS, evE, evEs, evAn, evOr, wo_outs, wo_nx, wo_rt, wr_bind, wr_ok, wo_ite, wr_ite, wr_lift, wr_tru, someEx, List.length_cons, List.length_nil, List.getElem?_cons_zero, List.getElem?_cons_succ, List.set_cons_zero, List.set_cons_succ, ix_lst, Nat.zero_add, Nat.reduceAdd, slB, isNon, D.isStr, if_true, evSl, evCs, tg_n, tg_t2, tg_t3, tg_t4, Tg.slots, Tg.slotss, wipeE, wr_noexc, Option.map_some, Option.bind_some, reduceIte]
    rw [join_few (k := 7) (fun w hw => by
      obtain ⟨x, hx, rfl⟩ := List.mem_map.mp hw
      obtain ⟨x0, x1⟩ := ok.2.2.2 x hx
      exact sT_len x0 (by omega)) (by
      have := ok.2.1
      have e : (Str.ofString "").length = 0 := rfl
      rw [List.length_map, e]
      omega)]
    exact ⟨_, rfl, rfl, trivial⟩
  | clock a b =>
    obtain ⟨a0, a1, b0, b1, _⟩ := ok
    unfold Cn.d
    rw [wo_cons]
    simp only [evS, evE, evEs, evAn, evOr, wo_outs, wo_nx, wo_rt, wr_bind, wr_ok, wo_ite, wr_ite, wr_lift, wr_tru, someEx, List.length_cons, List.length_nil, List.getElem?_cons_zero, List.getElem?_cons_succ, List.set_cons_zero, List.set_cons_succ, ix_lst, Nat.zero_add, Nat.reduceAdd, slB, isNon, D.isStr, if_true, evSl, evCs, tg_n, tg_t2, tg_t3, tg_t4, Tg.slots, Tg.slotss, wipeE, wr_noexc, Option.map_some, Option.bind_some, reduceIte, ix_tup, at0, eq_str, w5, wo_nil]
    rw [wo_cons]
    simp only [evS, evE, evEs, evAn, evOr, wo_outs, wo_nx, wo_rt, wr_bind, wr_ok, wo_ite, wr_ite, wr_lift, wr_tru, someEx, List.length_cons, List.length_nil, List.getElem?_cons_zero, List.getElem?_cons_succ, List.set_cons_zero, List.set_cons_succ, ix_lst, Nat.zero_add, Nat.reduceAdd, slB, isNon, D.isStr, if_true, evSl, evCs, tg_n, tg_t2, tg_t3, tg_t4, Tg.slots, Tg.slotss, wipeE, wr_noexc, Option.map_some, Option.bind_some, reduceIte, cut1, items_tup]
    rw [compL_pure (g := gC) (fun d hd => by
      have : d = .int a ∨ d = .int b := by simpa using hd
      rcases this with e | e <;> subst e
      · simp only [Res.ok_bind, clock_ok h1 h2 a0 a1]
        rfl
      · simp only [Res.ok_bind, clock_ok h1 h2 b0 b1]
        rfl)]
    have ef : [D.int a, D.int b].filterMap gC = [D.str (clT a), D.str (clT b)] := rfl
    rw [ef]
    exact ⟨_, add_lst (show 3 ≤ sizeLine by decide), rfl, rfl⟩
  | num w n =>
    obtain ⟨e1, e2, n0, n1⟩ := num_ne ok
    unfold Cn.d
    rw [wo_cons]
    simp only [evS, evE, evEs, evAn, evOr, wo_outs, wo_nx, wo_rt, wr_bind, wr_ok, wo_ite, wr_ite, wr_lift, wr_tru, someEx, List.length_cons, List.length_nil, List.getElem?_cons_zero, List.getElem?_cons_succ, List.set_cons_zero, List.set_cons_succ, ix_lst, Nat.zero_add, Nat.reduceAdd, slB, isNon, D.isStr, if_true, evSl, evCs, tg_n, tg_t2, tg_t3, tg_t4, Tg.slots, Tg.slotss, wipeE, wr_noexc, Option.map_some, Option.bind_some, reduceIte, ix_tup, at0, eq_str, e1, wo_nil, Bool.false_eq_true]
    rw [wo_cons]
    simp only [evS, evE, evEs, evAn, evOr, wo_outs, wo_nx, wo_rt, wr_bind, wr_ok, wo_ite, wr_ite, wr_lift, wr_tru, someEx, List.length_cons, List.length_nil, List.getElem?_cons_zero, List.getElem?_cons_succ, List.set_cons_zero, List.set_cons_succ, ix_lst, Nat.zero_add, Nat.reduceAdd, slB, isNon, D.isStr, if_true, evSl, evCs, tg_n, tg_t2, tg_t3, tg_t4, Tg.slots, Tg.slotss, wipeE, wr_noexc, Option.map_some, Option.bind_some, reduceIte, ix_tup, at0, eq_str, e2, wo_nil, Bool.false_eq_true]
    rw [wo_cons]
    simp only [evS, evE, evEs, evAn, evOr, wo_outs, wo_nx, wo_rt, wr_bind, wr_ok, wo_ite, wr_ite, wr_lift, wr_tru, someEx, List.length_cons, List.length_nil, List.getElem?_cons_zero, List.getElem?_cons_succ, List.set_cons_zero, List.set_cons_succ, ix_lst, Nat.zero_add, Nat.reduceAdd, slB, isNon, D.isStr, if_true, evSl, evCs, tg_n, tg_t2, tg_t3, tg_t4, Tg.slots, Tg.slotss, wipeE, wr_noexc, Option.map_some, Option.bind_some, reduceIte, ix_tup, at0, cut1, items_tup, compL, Res.ok_bind, str_int (show 0 ≤ n by omega) (show n < 2 ^ 60 by omega), lift_some, Res.ok_noexc]
    exact ⟨_, add_lst (show 2 ≤ sizeLine by decide), rfl, trivial⟩
theorem lwords_ok {P : Prog} {n kw k1 : Nat} {c : Cn} {S : Sto} (hw : P.fns[kw]? = some (lwordsF k1)) (h1 : P.fns[k1]? = some lclockF) (ok : c.Ok) : run P (n + 2) kw [c.d] S = .ok (.lst (c.ws.map .str)) S := by
  refine run_eq hw rfl ?_
  show Wo (evSs P.gl (run P (n + 1)) (lwordsF k1).body [some c.d, none, none] S) _ _
  unfold lwordsF
  dsimp only
  cases c with
  | feast =>
    unfold Cn.d
    rw [wo_cons]
    simp only [evS, evE, evEs, evAn, evOr, wo_outs, wo_nx, wo_rt, wr_bind, wr_ok, wo_ite, wr_ite, wr_lift, wr_tru, someEx, List.length_cons, List.length_nil, List.getElem?_cons_zero, List.getElem?_cons_succ, List.set_cons_zero, List.set_cons_succ, ix_lst, Nat.zero_add, Nat.reduceAdd, slB, isNon, D.isStr, if_true, evSl, evCs, tg_n, tg_t2, tg_t3, tg_t4, Tg.slots, Tg.slotss, wipeE, wr_noexc, Option.map_some, Option.bind_some, reduceIte, ix_tup, at0, eq_str, w1, wo_nil, Bool.false_eq_true]
    rw [wo_cons]
    simp only [evS, evE, evEs, evAn, evOr, wo_outs, wo_nx, wo_rt, wr_bind, wr_ok, wo_ite, wr_ite, wr_lift, wr_tru, someEx, List.length_cons, List.length_nil, List.getElem?_cons_zero, List.getElem?_cons_succ, List.set_cons_zero, List.set_cons_succ, ix_lst, Nat.zero_add, Nat.reduceAdd, slB, isNon, D.isStr, if_true, evSl, evCs, tg_n, tg_t2, tg_t3, tg_t4, Tg.slots, Tg.slotss, wipeE, wr_noexc, Option.map_some, Option.bind_some, reduceIte, ix_tup, at0, eq_str, w2, wo_nil, Bool.false_eq_true]
    rw [wo_cons]
    simp only [evS, evE, evEs, evAn, evOr, wo_outs, wo_nx, wo_rt, wr_bind, wr_ok, wo_ite, wr_ite, wr_lift, wr_tru, someEx, List.length_cons, List.length_nil, List.getElem?_cons_zero, List.getElem?_cons_succ, List.set_cons_zero, List.set_cons_succ, ix_lst, Nat.zero_add, Nat.reduceAdd, slB, isNon, D.isStr, if_true, evSl, evCs, tg_n, tg_t2, tg_t3, tg_t4, Tg.slots, Tg.slotss, wipeE, wr_noexc, Option.map_some, Option.bind_some, reduceIte, items_tup, compL, Res.ok_bind, str_str, lift_some, Res.ok_noexc]
    exact ⟨rfl, trivial⟩
  | days ns =>
    unfold Cn.d
    rw [wo_cons]
    simp only [evS, evE, evEs, evAn, evOr, wo_outs, wo_nx, wo_rt, wr_bind, wr_ok, wo_ite, wr_ite, wr_lift, wr_tru, someEx, List.length_cons, List.length_nil, List.getElem?_cons_zero, List.getElem?_cons_succ, List.set_cons_zero, List.set_cons_succ, ix_lst, Nat.zero_add, Nat.reduceAdd, slB, isNon, D.isStr, if_true, evSl, evCs, tg_n, tg_t2, tg_t3, tg_t4, Tg.slots, Tg.slotss, wipeE, wr_noexc, Option.map_some, Option.bind_some, reduceIte, ix_tup, at0, eq_str, w3, wo_nil, Bool.false_eq_true]
    rw [wo_cons]
    simp only [evS, evE, evEs, evAn, evOr, wo_outs, wo_nx, wo_rt, wr_bind, wr_ok, wo_ite, wr_ite, wr_lift, wr_tru, someEx, List.length_cons, List.length_nil, List.getElem?_cons_zero, List.getElem?_cons_succ, List.set_cons_zero, List.set_cons_succ, ix_lst, Nat.zero_add, Nat.reduceAdd, slB, isNon, D.isStr, if_true, evSl, evCs, tg_n, tg_t2, tg_t3, tg_t4, Tg.slots, Tg.slotss, wipeE, wr_noexc, Option.map_some, Option.bind_some, reduceIte, ix_tup, at0, eq_str, w4, wo_nil]
    rw [wo_cons]
    simp only [evS, evE, evEs, evAn, evOr, wo_outs, wo_nx, wo_rt, wr_bind, wr_ok, wo_ite, wr_ite, wr_lift, wr_tru, someEx, List.length_cons, List.length_nil, List.getElem?_cons_zero, List.getElem?_cons_succ, List.set_cons_zero, List.set_cons_succ, ix_lst, Nat.zero_add, Nat.reduceAdd, slB, isNon, D.isStr, if_true, evSl, evCs, tg_n, tg_t2, tg_t3, tg_t4, Tg.slots, Tg.slotss, wipeE, wr_noexc, Option.map_some, Option.bind_some, reduceIte, ix_tup, at1, items_tup]
    rw [compL_pure (g := gI) (fun d hd => by
      obtain ⟨x, hx, rfl⟩ := List.mem_map.mp hd
      obtain ⟨x0, x1⟩ := ok.2.2.2 x hx
      simp only [Res.ok_bind, str_int x0 (show x < 2 ^ 60 by omega), lift_some]
      rfl)]
    rw [gI_map]
    simp only [evS, evE, evEs, evAn, evOr, wo_outs, wo_nx, wo_rt, wr_bind, wr_ok, wo_ite, wr_ite, wr_lift, wr_tru, someEx, List.length_cons, List.length_nil, List.getElem?_cons_zero, List.getElem?_cons_succ, List.set_cons_zero, List.set_cons_succ, ix_lst, Nat.zero_add, Nat.reduceAdd, slB, isNon, D.isStr, if_true, evSl, evCs, tg_n, tg_t2, tg_t3, tg_t4, Tg.slots, Tg.slotss, wipeE, wr_noexc, Option.map_some, Option.bind_some, reduceIte]
    rw [join_few (k := 7) (fun w hw => by
      obtain ⟨x, hx, rfl⟩ := List.mem_map.mp hw
      obtain ⟨x0, x1⟩ := ok.2.2.2 x hx
      exact sT_len x0 (by omega)) (by
      have := ok.2.1
      have e : (Str.ofString "").length = 0 := rfl
      rw [List.length_map, e]
      omega)]
    exact ⟨_, rfl, rfl, trivial⟩
  | clock a b =>
    obtain ⟨a0, a1, b0, b1, _⟩ := ok
    unfold Cn.d
    rw [wo_cons]
    simp only [evS, evE, evEs, evAn, evOr, wo_outs, wo_nx, wo_rt, wr_bind, wr_ok, wo_ite, wr_ite, wr_lift, wr_tru, someEx, List.length_cons, List.length_nil, List.getElem?_cons_zero, List.getElem?_cons_succ, List.set_cons_zero, List.set_cons_succ, ix_lst, Nat.zero_add, Nat.reduceAdd, slB, isNon, D.isStr, if_true, evSl, evCs, tg_n, tg_t2, tg_t3, tg_t4, Tg.slots, Tg.slotss, wipeE, wr_noexc, Option.map_some, Option.bind_some, reduceIte, ix_tup, at0, eq_str, w5, wo_nil]
    rw [wo_cons]
    simp only [evS, evE, evEs, evAn, evOr, wo_outs, wo_nx, wo_rt, wr_bind, wr_ok, wo_ite, wr_ite, wr_lift, wr_tru, someEx, List.length_cons, List.length_nil, List.getElem?_cons_zero, List.getElem?_cons_succ, List.set_cons_zero, List.set_cons_succ, ix_lst, Nat.zero_add, Nat.reduceAdd, slB, isNon, D.isStr, if_true, evSl, evCs, tg_n, tg_t2, tg_t3, tg_t4, Tg.slots, Tg.slotss, wipeE, wr_noexc, Option.map_some, Option.bind_some, reduceIte, ix_tup, at1, at2, lclock_ok h1 a0 a1, lclock_ok h1 b0 b1]
    exact ⟨rfl, trivial⟩
  | num w n =>
    obtain ⟨e1, e2, n0, n1⟩ := num_ne ok
    unfold Cn.d
    rw [wo_cons]
    simp only [evS, evE, evEs, evAn, evOr, wo_outs, wo_nx, wo_rt, wr_bind, wr_ok, wo_ite, wr_ite, wr_lift, wr_tru, someEx, List.length_cons, List.length_nil, List.getElem?_cons_zero, List.getElem?_cons_succ, List.set_cons_zero, List.set_cons_succ, ix_lst, Nat.zero_add, Nat.reduceAdd, slB, isNon, D.isStr, if_true, evSl, evCs, tg_n, tg_t2, tg_t3, tg_t4, Tg.slots, Tg.slotss, wipeE, wr_noexc, Option.map_some, Option.bind_some, reduceIte, ix_tup, at0, eq_str, e1, wo_nil, Bool.false_eq_true]
    rw [wo_cons]
    simp only [evS, evE, evEs, evAn, evOr, wo_outs, wo_nx, wo_rt, wr_bind, wr_ok, wo_ite, wr_ite, wr_lift, wr_tru, someEx, List.length_cons, List.length_nil, List.getElem?_cons_zero, List.getElem?_cons_succ, List.set_cons_zero, List.set_cons_succ, ix_lst, Nat.zero_add, Nat.reduceAdd, slB, isNon, D.isStr, if_true, evSl, evCs, tg_n, tg_t2, tg_t3, tg_t4, Tg.slots, Tg.slotss, wipeE, wr_noexc, Option.map_some, Option.bind_some, reduceIte, ix_tup, at0, eq_str, e2, wo_nil, Bool.false_eq_true]
    rw [wo_cons]
    simp only [evS, evE, evEs, evAn, evOr, wo_outs, wo_nx, wo_rt, wr_bind, wr_ok, wo_ite, wr_ite, wr_lift, wr_tru, someEx, List.length_cons, List.length_nil, List.getElem?_cons_zero, List.getElem?_cons_succ, List.set_cons_zero, List.set_cons_succ, ix_lst, Nat.zero_add, Nat.reduceAdd, slB, isNon, D.isStr, if_true, evSl, evCs, tg_n, tg_t2, tg_t3, tg_t4, Tg.slots, Tg.slotss, wipeE, wr_noexc, Option.map_some, Option.bind_some, reduceIte, items_tup, compL, Res.ok_bind, str_str, str_int (show 0 ≤ n by omega) (show n < 2 ^ 60 by omega), lift_some, Res.ok_noexc]
    exact ⟨rfl, trivial⟩
end VE

set_option Elab.async false
set_option linter.all false
set_option maxRecDepth 100000
set_option maxHeartbeats 4000000
/-! VL, part 10: rows and the text of a book. -/
namespace VE
open PySem PySem.Spec PyProof.Rows L2

def wsOf (cs : List Cn) : List Str := cs.flatMap Cn.ws
theorem wsOf_len : ∀ {cs : List Cn}, (∀ c ∈ cs, c.Ok) → (wsOf cs).length ≤ 3 * cs.length ∧ ∀ w ∈ wsOf cs, w.length ≤ 49
  | [], _ => ⟨Nat.le_refl _, fun w h => nomatch h⟩
  | c :: cs, h => by
    obtain ⟨a, b⟩ := wsOf_len fun x hx => h x (List.mem_cons_of_mem _ hx)
    obtain ⟨a', b'⟩ := ws_len (h c List.mem_cons_self)
    unfold wsOf at a b ⊢
    rw [List.flatMap_cons, List.length_append, List.length_cons]
    refine ⟨by omega, fun w hw => ?_⟩
    rcases List.mem_append.mp hw with q | q
    · exact b' w q
    · exact b w q
theorem wsOf_succ {cs : List Cn} {i : Nat} {c : Cn} (h : cs[i]? = some c) : wsOf (cs.take (i + 1)) = wsOf (cs.take i) ++ c.ws := by
  unfold wsOf
  rw [List.take_add_one, h, List.flatMap_append]
  congr 1
  exact List.append_nil _
def Rl.ws (r : Rl) : List Str := ["rule", r.name, sT r.rank, r.sort]
def Rl.row (r : Rl) : Str := Txt.join " " (r.ws ++ wsOf r.cs)
structure RlT (r : Rl) : Prop where
  ok : r.Ok
  nm : r.name.length ≤ 8
  so : r.sort.length ≤ 8
theorem RlT.few {r : Rl} (h : RlT r) : (r.ws ++ wsOf r.cs).length ≤ 19 ∧ ∀ w ∈ r.ws ++ wsOf r.cs, w.length ≤ 49 := by
  obtain ⟨a, b⟩ := wsOf_len h.ok.2.2.1
  have c := h.ok.2.2.2.2
  rw [List.length_append]
  refine ⟨by show 4 + _ ≤ 19; omega, fun w hw => ?_⟩
  rcases List.mem_append.mp hw with q | q
  · have : w = "rule" ∨ w = r.name ∨ w = sT r.rank ∨ w = r.sort := by simpa [Rl.ws] using q
    rcases this with e | e | e | e <;> subst e
    · decide
    · exact Nat.le_trans h.nm (by decide)
    · exact Nat.le_trans (sT_len h.ok.1 (by have := h.ok.2.1; omega)) (by decide)
    · exact Nat.le_trans h.so (by decide)
  · exact b w q
theorem RlT.row_len {r : Rl} (h : RlT r) : r.row.length ≤ 1000 := by
  obtain ⟨a, b⟩ := h.few
  have := join_len (s := " ") b
  have e : (Str.ofString " ").length = 1 := rfl
  rw [e] at this
  have : (r.ws ++ wsOf r.cs).length * (49 + 1) ≤ 19 * 50 := Nat.mul_le_mul_right _ a
  unfold Rl.row
  omega
theorem RlT.join {r : Rl} (h : RlT r) : evMe .join (.str " ") [.lst ((r.ws ++ wsOf r.cs).map .str)] = some (.str r.row) := by
  obtain ⟨a, b⟩ := h.few
  refine join_few b ?_
  have e : (Str.ofString " ").length = 1 := rfl
  rw [e]
  have : (r.ws ++ wsOf r.cs).length * (49 + 1) ≤ 19 * 50 := Nat.mul_le_mul_right _ a
  omega
def rowF (kw : Nat) : Fn := ⟨1, 3, true, [
  .asg 1 (.lst [.str "rule", .ix (.v 0) (.int 0), .bi .str [.ix (.v 0) (.int 1)], .ix (.v 0) (.int 2)]),
  .forr (.n 2) (.ix (.v 0) (.int 3)) [.extd 1 (.call kw [.v 2])],
  .ret (.me .join (.str " ") [.v 1])]⟩
theorem at3 (x y z w : D) (l : List D) : atI (x :: y :: z :: w :: l) 3 = some w := by
  refine atI_nat (by decide) rfl
theorem row_ok {P : Prog} {n kr kw k1 k2 : Nat} {r : Rl} {S : Sto} (hr : P.fns[kr]? = some (rowF kw)) (hw : P.fns[kw]? = some (wordsF k1)) (h1 : P.fns[k1]? = some (clockF k2)) (h2 : P.fns[k2]? = some twoF) (ok : RlT r) : run P (n + 4) kr [r.d] S = .ok (.str r.row) S := by
  refine run_eq hr rfl ?_
  show Wo (evSs P.gl (run P (n + 3)) (rowF kw).body [some r.d, none, none] S) _ _
  unfold rowF
  dsimp only
  unfold Rl.d
  rw [wo_cons]
  simp only [evS, evE, evEs, evAn, evOr, wo_outs, wo_nx, wo_rt, wr_bind, wr_ok, wo_ite, wr_ite, wr_lift, wr_tru, someEx, List.length_cons, List.length_nil, List.getElem?_cons_zero, List.getElem?_cons_succ, List.set_cons_zero, List.set_cons_succ, ix_lst, Nat.zero_add, Nat.reduceAdd, slB, isNon, D.isStr, if_true, evSl, evCs, tg_n, tg_t2, tg_t3, tg_t4, Tg.slots, Tg.slotss, wipeE, wr_noexc, Option.map_some, Option.bind_some, reduceIte, ix_tup, at0, at1, at2, str_int ok.ok.1 (show r.rank < 2 ^ 60 by have := ok.ok.2.1; omega)]
  rw [wo_cons]
  simp only [evIt, evS, evE, evEs, evAn, evOr, wo_outs, wo_nx, wo_rt, wr_bind, wr_ok, wo_ite, wr_ite, wr_lift, wr_tru, someEx, List.length_cons, List.length_nil, List.getElem?_cons_zero, List.getElem?_cons_succ, List.set_cons_zero, List.set_cons_succ, ix_lst, Nat.zero_add, Nat.reduceAdd, slB, isNon, D.isStr, if_true, evSl, evCs, tg_n, tg_t2, tg_t3, tg_t4, Tg.slots, Tg.slotss, wipeE, wr_noexc, Option.map_some, Option.bind_some, reduceIte, ix_tup, at3, items_tup]
  obtain ⟨fa, fb⟩ := wsOf_len ok.ok.2.2.1
  have lc := ok.ok.2.2.2.2
  refine wo_for (I := fun i env S' => S' = S ∧ ∃ x2, env = [some (.tup [.str r.name, .int r.rank, .str r.sort, .tup (r.cs.map Cn.d)]), some (.lst ((r.ws ++ wsOf (r.cs.take i)).map .str)), x2]) (k := 0) ⟨rfl, none, rfl⟩ (fun i d env S' hd ⟨es, x2, ee⟩ => ?_) fun env S' ⟨es, x2, ee⟩ => ?_
  · subst es ee
    rw [Nat.zero_add, List.getElem?_map] at *
    cases hc : r.cs[i]? with
    | none =>
      rw [hc] at hd
      cases hd
    | some c =>
      rw [hc] at hd
      cases hd
      have lt := (List.getElem?_eq_some_iff.mp hc).1
      have co := ok.ok.2.2.1 c (List.mem_of_getElem? hc)
      obtain ⟨ga, gb⟩ := wsOf_len (cs := r.cs.take i) fun x hx => ok.ok.2.2.1 x (List.mem_of_mem_take hx)
      rw [List.length_take] at ga
      simp only [evS, evE, evEs, evAn, evOr, wo_outs, wo_nx, wo_rt, wr_bind, wr_ok, wo_ite, wr_ite, wr_lift, wr_tru, someEx, List.length_cons, List.length_nil, List.getElem?_cons_zero, List.getElem?_cons_succ, List.set_cons_zero, List.set_cons_succ, ix_lst, Nat.zero_add, Nat.reduceAdd, slB, isNon, D.isStr, if_true, evSl, evCs, tg_n, tg_t2, tg_t3, tg_t4, Tg.slots, Tg.slotss, wipeE, wr_noexc, Option.map_some, Option.bind_some, reduceIte]
      rw [wo_cons]
      simp only [evS, evE, evEs, evAn, evOr, wo_outs, wo_nx, wo_rt, wr_bind, wr_ok, wo_ite, wr_ite, wr_lift, wr_tru, someEx, List.length_cons, List.length_nil, List.getElem?_cons_zero, List.getElem?_cons_succ, List.set_cons_zero, List.set_cons_succ, ix_lst, Nat.zero_add, Nat.reduceAdd, slB, isNon, D.isStr, if_true, evSl, evCs, tg_n, tg_t2, tg_t3, tg_t4, Tg.slots, Tg.slotss, wipeE, wr_noexc, Option.map_some, Option.bind_some, reduceIte, words_body hw h1 h2 co]
      have l1 := (ws_len co).1
      rw [if_pos (by rw [List.length_map, List.length_map, List.length_append]; show (4 + _) + _ ≤ sizeLine; unfold sizeLine; omega)]
      simp only [evS, evE, evEs, evAn, evOr, wo_outs, wo_nx, wo_rt, wr_bind, wr_ok, wo_ite, wr_ite, wr_lift, wr_tru, someEx, List.length_cons, List.length_nil, List.getElem?_cons_zero, List.getElem?_cons_succ, List.set_cons_zero, List.set_cons_succ, ix_lst, Nat.zero_add, Nat.reduceAdd, slB, isNon, D.isStr, if_true, evSl, evCs, tg_n, tg_t2, tg_t3, tg_t4, Tg.slots, Tg.slotss, wipeE, wr_noexc, Option.map_some, Option.bind_some, reduceIte, wo_nil]
      exact ⟨trivial, _, by rw [wsOf_succ hc, ← List.map_append, List.append_assoc]⟩
  · subst es ee
    rw [Nat.zero_add, List.length_map, List.take_length]
    rw [wo_cons]
    simp only [evS, evE, evEs, evAn, evOr, wo_outs, wo_nx, wo_rt, wr_bind, wr_ok, wo_ite, wr_ite, wr_lift, wr_tru, someEx, List.length_cons, List.length_nil, List.getElem?_cons_zero, List.getElem?_cons_succ, List.set_cons_zero, List.set_cons_succ, ix_lst, Nat.zero_add, Nat.reduceAdd, slB, isNon, D.isStr, if_true, evSl, evCs, tg_n, tg_t2, tg_t3, tg_t4, Tg.slots, Tg.slotss, wipeE, wr_noexc, Option.map_some, Option.bind_some, reduceIte, ok.join]
    exact ⟨trivial, trivial⟩
end VE

set_option Elab.async false
set_option linter.all false
set_option maxRecDepth 100000
set_option maxHeartbeats 4000000
/-! VL, part 11: a book's text. -/
namespace VE
open PySem PySem.Spec PyProof.Rows L2

def rateT (p : Str × Int) : Str := (("rate " ++ p.1) ++ " ") ++ sT p.2
def Bk.rows (k : Bk) : List Str := k.rates.map rateT ++ ["base " ++ k.base]
def Bk.text (k : Bk) : Str := Txt.join "\n" (k.rows ++ k.rules.map Rl.row)
structure BkT (k : Bk) : Prop where
  base : k.base.length ≤ 8
  few : k.rates.length ≤ 21
  names : ∀ p ∈ k.rates, p.1.length ≤ 8 ∧ 0 ≤ p.2 ∧ p.2 ≤ 1000000
  rules : k.rules.length ≤ 8
  rok : ∀ r ∈ k.rules, RlT r
theorem BkOk.t {k : Bk} (h : BkOk k) : BkT k := by
  have nm : ∀ w ∈ k.rates.map (·.1), w.length ≤ 8 := fun w hw => by
    obtain ⟨p, hp, rfl⟩ := List.mem_map.mp hw
    exact (h.names p hp).1.2.1
  refine ⟨nm _ h.base, h.few, fun p hp => ⟨nm _ (List.mem_map_of_mem hp), (h.names p hp).2⟩, h.rules, fun r hr => ?_⟩
  obtain ⟨a, b, c⟩ := h.rok r hr
  exact ⟨a, b.2.1, nm _ c⟩
theorem rate_len {p : Str × Int} (h : p.1.length ≤ 8 ∧ 0 ≤ p.2 ∧ p.2 ≤ 1000000) : (rateT p).length ≤ 30 := by
  unfold rateT
  rw [Str.length_append, Str.length_append, Str.length_append]
  have a := sT_len (i := p.2) h.2.1 (by have := h.2.2; omega)
  have b : (Str.ofString "rate ").length = 5 := rfl
  have c : (Str.ofString " ").length = 1 := rfl
  have := h.1
  omega
theorem BkT.rows_len {k : Bk} (h : BkT k) : k.rows.length ≤ 22 ∧ ∀ w ∈ k.rows, w.length ≤ 1000 := by
  unfold Bk.rows
  rw [List.length_append, List.length_map]
  have := h.few
  refine ⟨by show _ + 1 ≤ 22; omega, fun w hw => ?_⟩
  rcases List.mem_append.mp hw with q | q
  · obtain ⟨p, hp, rfl⟩ := List.mem_map.mp q
    exact Nat.le_trans (rate_len (h.names p hp)) (by decide)
  · rw [List.mem_singleton.mp q, Str.length_append]
    have a := h.base
    have b : (Str.ofString "base ").length = 5 := rfl
    omega
theorem BkT.join {k : Bk} (h : BkT k) : evMe .join (.str "\n") [.lst ((k.rows ++ k.rules.map Rl.row).map .str)] = some (.str k.text) := by
  obtain ⟨a, b⟩ := h.rows_len
  refine join_few (k := 1000) (fun w hw => ?_) ?_
  · rcases List.mem_append.mp hw with q | q
    · exact b w q
    · obtain ⟨r, hr, rfl⟩ := List.mem_map.mp q
      exact (h.rok r hr).row_len
  · have e : (Str.ofString "\n").length = 1 := rfl
    rw [e, List.length_append, List.length_map]
    have := h.rules
    omega
def showF (kr : Nat) : Fn := ⟨1, 8, true, [
  .asgT (.t [.n 2, .n 3, .n 4]) (.v 0),
  .asg 1 (.bin .add (.comp (.bin .add (.bin .add (.bin .add (.str "rate ") (.v 5)) (.str " ")) (.bi .str [.v 6])) (.t [.n 5, .n 6]) (.v 3) []) (.lst [.bin .add (.str "base ") (.v 2)])),
  .ret (.me .join (.str "\n") [.bin .add (.v 1) (.comp (.call kr [.v 7]) (.n 7) (.v 4) [])])]⟩
def gR : D → Option D
  | .tup [.str w, .int x] => some (.str (rateT (w, x)))
  | _ => none
theorem gR_map : ∀ ps : List (Str × Int), (ps.map rdD).filterMap gR = (ps.map rateT).map D.str
  | [] => rfl
  | p :: l => by
    rw [List.map_cons, List.filterMap_cons, gR_map l]
    rfl
theorem rate_ev {p : Str × Int} (h : p.1.length ≤ 8 ∧ 0 ≤ p.2 ∧ p.2 ≤ 1000000) : evBin .add (.str "rate ") (.str p.1) = some (.str ("rate " ++ p.1)) ∧ evBin .add (.str ("rate " ++ p.1)) (.str " ") = some (.str (("rate " ++ p.1) ++ " ")) ∧ evBin .add (.str (("rate " ++ p.1) ++ " ")) (.str (sT p.2)) = some (.str (rateT p)) ∧ evBi .str [.int p.2] = some (.str (sT p.2)) := by
  have a := sT_len (i := p.2) h.2.1 (by have := h.2.2; omega)
  have b : (Str.ofString "rate ").length = 5 := rfl
  have c : (Str.ofString " ").length = 1 := rfl
  have := h.1
  refine ⟨add_str ?_, add_str ?_, add_str ?_, str_int h.2.1 (by have := h.2.2; omega)⟩
  · rw [sizeLine_eq]
    omega
  · rw [sizeLine_eq, Str.length_append]
    omega
  · rw [sizeLine_eq, Str.length_append, Str.length_append]
    omega
theorem base_ev {w : Str} (h : w.length ≤ 8) : evBin .add (.str "base ") (.str w) = some (.str ("base " ++ w)) := by
  have b : (Str.ofString "base ").length = 5 := rfl
  exact add_str (by rw [sizeLine_eq, b]; omega)
/-- a comprehension that maps -/
theorem compL_map {α : Type} {f : D → Sto → Res (Option D)} {S : Sto} {e g : α → D} : ∀ {as : List α}, (∀ a ∈ as, f (e a) S = .ok (some (g a)) S) → compL f (as.map e) S = .ok (as.map g) S
  | [], _ => rfl
  | a :: as, h => by
    rw [List.map_cons, List.map_cons]
    unfold compL
    rw [h a List.mem_cons_self, Res.ok_bind, compL_map fun b hb => h b (List.mem_cons_of_mem _ hb)]
    rfl
theorem show_ok {P : Prog} {n ks kr kw k1 k2 : Nat} {k : Bk} {S : Sto} (hs : P.fns[ks]? = some (showF kr)) (hr : P.fns[kr]? = some (rowF kw)) (hw : P.fns[kw]? = some (wordsF k1)) (h1 : P.fns[k1]? = some (clockF k2)) (h2 : P.fns[k2]? = some twoF) (ok : BkT k) : run P (n + 5) ks [k.d] S = .ok (.str k.text) S := by
  refine run_eq hs rfl ?_
  show Wo (evSs P.gl (run P (n + 4)) (showF kr).body [some k.d, none, none, none, none, none, none, none] S) _ _
  unfold showF
  dsimp only
  unfold Bk.d
  rw [wo_cons]
  simp only [evS, evE, evEs, evAn, evOr, wo_outs, wo_nx, wo_rt, wr_bind, wr_ok, wo_ite, wr_ite, wr_lift, wr_tru, someEx, List.length_cons, List.length_nil, List.getElem?_cons_zero, List.getElem?_cons_succ, List.set_cons_zero, List.set_cons_succ, ix_lst, Nat.zero_add, Nat.reduceAdd, slB, isNon, D.isStr, if_true, evSl, evCs, tg_n, tg_t2, tg_t3, tg_t4, Tg.slots, Tg.slotss, wipeE, wr_noexc, Option.map_some, Option.bind_some, reduceIte]
  rw [wo_cons]
  simp only [evS, evE, evEs, evAn, evOr, wo_outs, wo_nx, wo_rt, wr_bind, wr_ok, wo_ite, wr_ite, wr_lift, wr_tru, someEx, List.length_cons, List.length_nil, List.getElem?_cons_zero, List.getElem?_cons_succ, List.set_cons_zero, List.set_cons_succ, ix_lst, Nat.zero_add, Nat.reduceAdd, slB, isNon, D.isStr, if_true, evSl, evCs, tg_n, tg_t2, tg_t3, tg_t4, Tg.slots, Tg.slotss, wipeE, wr_noexc, Option.map_some, Option.bind_some, reduceIte, items_tup]
  rw [compL_map (g := fun p => .str (rateT p)) (fun p hp => by
    obtain ⟨e1, e2, e3, e4⟩ := rate_ev (ok.names p hp)
    unfold rdD
    simp only [evS, evE, evEs, evAn, evOr, wo_outs, wo_nx, wo_rt, wr_bind, wr_ok, wo_ite, wr_ite, wr_lift, wr_tru, someEx, List.length_cons, List.length_nil, List.getElem?_cons_zero, List.getElem?_cons_succ, List.set_cons_zero, List.set_cons_succ, ix_lst, Nat.zero_add, Nat.reduceAdd, slB, isNon, D.isStr, if_true, evSl, evCs, tg_n, tg_t2, tg_t3, tg_t4, Tg.slots, Tg.slotss, wipeE, wr_noexc, Option.map_some, Option.bind_some, reduceIte, List.cons_append, List.nil_append, Res.ok_bind, e1, e2, e3, e4, lift_some, Res.ok_noexc])]
  simp only [evS, evE, evEs, evAn, evOr, wo_outs, wo_nx, wo_rt, wr_bind, wr_ok, wo_ite, wr_ite, wr_lift, wr_tru, someEx, List.length_cons, List.length_nil, List.getElem?_cons_zero, List.getElem?_cons_succ, List.set_cons_zero, List.set_cons_succ, ix_lst, Nat.zero_add, Nat.reduceAdd, slB, isNon, D.isStr, if_true, evSl, evCs, tg_n, tg_t2, tg_t3, tg_t4, Tg.slots, Tg.slotss, wipeE, wr_noexc, Option.map_some, Option.bind_some, reduceIte, base_ev ok.base]
  obtain ⟨a, b⟩ := ok.rows_len
  have ad : evBin .add (.lst (k.rates.map fun p => D.str (rateT p))) (.lst [.str ("base " ++ k.base)]) = some (.lst (k.rows.map .str)) := by
    rw [add_lst (by rw [List.length_map, sizeLine_eq]; have := ok.few; show _ + 1 ≤ _; omega)]
    unfold Bk.rows
    rw [List.map_append, List.map_map]
    rfl
  simp only [ad, evS, evE, evEs, evAn, evOr, wo_outs, wo_nx, wo_rt, wr_bind, wr_ok, wo_ite, wr_ite, wr_lift, wr_tru, someEx, List.length_cons, List.length_nil, List.getElem?_cons_zero, List.getElem?_cons_succ, List.set_cons_zero, List.set_cons_succ, ix_lst, Nat.zero_add, Nat.reduceAdd, slB, isNon, D.isStr, if_true, evSl, evCs, tg_n, tg_t2, tg_t3, tg_t4, Tg.slots, Tg.slotss, wipeE, wr_noexc, Option.map_some, Option.bind_some, reduceIte]
  rw [wo_cons]
  simp only [evS, evE, evEs, evAn, evOr, wo_outs, wo_nx, wo_rt, wr_bind, wr_ok, wo_ite, wr_ite, wr_lift, wr_tru, someEx, List.length_cons, List.length_nil, List.getElem?_cons_zero, List.getElem?_cons_succ, List.set_cons_zero, List.set_cons_succ, ix_lst, Nat.zero_add, Nat.reduceAdd, slB, isNon, D.isStr, if_true, evSl, evCs, tg_n, tg_t2, tg_t3, tg_t4, Tg.slots, Tg.slotss, wipeE, wr_noexc, Option.map_some, Option.bind_some, reduceIte, items_tup]
  rw [compL_map (g := fun r => .str r.row) (fun r hh => by
    simp only [evS, evE, evEs, evAn, evOr, wo_outs, wo_nx, wo_rt, wr_bind, wr_ok, wo_ite, wr_ite, wr_lift, wr_tru, someEx, List.length_cons, List.length_nil, List.getElem?_cons_zero, List.getElem?_cons_succ, List.set_cons_zero, List.set_cons_succ, ix_lst, Nat.zero_add, Nat.reduceAdd, slB, isNon, D.isStr, if_true, evSl, evCs, tg_n, tg_t2, tg_t3, tg_t4, Tg.slots, Tg.slotss, wipeE, wr_noexc, Option.map_some, Option.bind_some, reduceIte, Res.ok_bind, row_ok hr hw h1 h2 (ok.rok r hh), Res.ok_noexc])]
  have ad : evBin .add (.lst (k.rows.map .str)) (.lst (k.rules.map fun r => D.str r.row)) = some (.lst ((k.rows ++ k.rules.map Rl.row).map .str)) := by
    rw [add_lst (by rw [List.length_map, List.length_map, sizeLine_eq]; have := ok.rules; omega)]
    rw [List.map_append, List.map_map]
    rfl
  simp only [evS, evE, evEs, evAn, evOr, wo_outs, wo_nx, wo_rt, wr_bind, wr_ok, wo_ite, wr_ite, wr_lift, wr_tru, someEx, List.length_cons, List.length_nil, List.getElem?_cons_zero, List.getElem?_cons_succ, List.set_cons_zero, List.set_cons_succ, ix_lst, Nat.zero_add, Nat.reduceAdd, slB, isNon, D.isStr, if_true, evSl, evCs, tg_n, tg_t2, tg_t3, tg_t4, Tg.slots, Tg.slotss, wipeE, wr_noexc, Option.map_some, Option.bind_some, reduceIte, ad, ok.join]
  exact ⟨trivial, trivial⟩
def textF (kl : Nat) : Fn := ⟨1, 12, true, [
  .asgT (.t [.n 2, .n 3, .n 4]) (.v 0),
  .asg 1 (.bin .add (.comp (.bin .add (.bin .add (.bin .add (.str "rate ") (.v 7)) (.str " ")) (.bi .str [.v 11])) (.t [.n 7, .n 11]) (.v 3) []) (.lst [.bin .add (.str "base ") (.v 2)])),
  .forr (.t [.n 5, .n 6, .n 7, .n 8]) (.v 4) [.asg 9 (.lst [.str "rule", .v 5, .bi .str [.v 6], .v 7]), .forr (.n 10) (.v 8) [.asg 9 (.bin .add (.v 9) (.call kl [.v 10]))], .app 1 (.me .join (.str " ") [.v 9]), .frz [9]],
  .ret (.me .join (.str "\n") [.v 1])]⟩
theorem text_ok {P : Prog} {n kt kl k1 : Nat} {k : Bk} {S : Sto} (ht : P.fns[kt]? = some (textF kl)) (hw : P.fns[kl]? = some (lwordsF k1)) (h1 : P.fns[k1]? = some lclockF) (ok : BkT k) : run P (n + 3) kt [k.d] S = .ok (.str k.text) S := by
  refine run_eq ht rfl ?_
  show Wo (evSs P.gl (run P (n + 2)) (textF kl).body [some k.d, none, none, none, none, none, none, none, none, none, none, none] S) _ _
  unfold textF
  dsimp only
  unfold Bk.d
  rw [wo_cons]
  simp only [evS, evE, evEs, evAn, evOr, wo_outs, wo_nx, wo_rt, wr_bind, wr_ok, wo_ite, wr_ite, wr_lift, wr_tru, someEx, List.length_cons, List.length_nil, List.getElem?_cons_zero, List.getElem?_cons_succ, List.set_cons_zero, List.set_cons_succ, ix_lst, Nat.zero_add, Nat.reduceAdd, slB, isNon, D.isStr, if_true, evSl, evCs, tg_n, tg_t2, tg_t3, tg_t4, Tg.slots, Tg.slotss, wipeE, wr_noexc, Option.map_some, Option.bind_some, reduceIte]
  rw [wo_cons]
  simp only [evS, evE, evEs, evAn, evOr, wo_outs, wo_nx, wo_rt, wr_bind, wr_ok, wo_ite, wr_ite, wr_lift, wr_tru, someEx, List.length_cons, List.length_nil, List.getElem?_cons_zero, List.getElem?_cons_succ, List.set_cons_zero, List.set_cons_succ, ix_lst, Nat.zero_add, Nat.reduceAdd, slB, isNon, D.isStr, if_true, evSl, evCs, tg_n, tg_t2, tg_t3, tg_t4, Tg.slots, Tg.slotss, wipeE, wr_noexc, Option.map_some, Option.bind_some, reduceIte, items_tup]
  rw [compL_map (g := fun p => .str (rateT p)) (fun p hp => by
    obtain ⟨e1, e2, e3, e4⟩ := rate_ev (ok.names p hp)
    unfold rdD
    simp only [evS, evE, evEs, evAn, evOr, wo_outs, wo_nx, wo_rt, wr_bind, wr_ok, wo_ite, wr_ite, wr_lift, wr_tru, someEx, List.length_cons, List.length_nil, List.getElem?_cons_zero, List.getElem?_cons_succ, List.set_cons_zero, List.set_cons_succ, ix_lst, Nat.zero_add, Nat.reduceAdd, slB, isNon, D.isStr, if_true, evSl, evCs, tg_n, tg_t2, tg_t3, tg_t4, Tg.slots, Tg.slotss, wipeE, wr_noexc, Option.map_some, Option.bind_some, reduceIte, List.cons_append, List.nil_append, Res.ok_bind, e1, e2, e3, e4, lift_some, Res.ok_noexc])]
  simp only [evS, evE, evEs, evAn, evOr, wo_outs, wo_nx, wo_rt, wr_bind, wr_ok, wo_ite, wr_ite, wr_lift, wr_tru, someEx, List.length_cons, List.length_nil, List.getElem?_cons_zero, List.getElem?_cons_succ, List.set_cons_zero, List.set_cons_succ, ix_lst, Nat.zero_add, Nat.reduceAdd, slB, isNon, D.isStr, if_true, evSl, evCs, tg_n, tg_t2, tg_t3, tg_t4, Tg.slots, Tg.slotss, wipeE, wr_noexc, Option.map_some, Option.bind_some, reduceIte, base_ev ok.base]
  obtain ⟨a, b⟩ := ok.rows_len
  have ad : evBin .add (.lst (k.rates.map fun p => D.str (rateT p))) (.lst [.str ("base " ++ k.base)]) = some (.lst (k.rows.map .str)) := by
    rw [add_lst (by rw [List.length_map, sizeLine_eq]; have := ok.few; show _ + 1 ≤ _; omega)]
    unfold Bk.rows
    rw [List.map_append, List.map_map]
    rfl
  simp only [ad, evS, evE, evEs, evAn, evOr, wo_outs, wo_nx, wo_rt, wr_bind, wr_ok, wo_ite, wr_ite, wr_lift, wr_tru, someEx, List.length_cons, List.length_nil, List.getElem?_cons_zero, List.getElem?_cons_succ, List.set_cons_zero, List.set_cons_succ, ix_lst, Nat.zero_add, Nat.reduceAdd, slB, isNon, D.isStr, if_true, evSl, evCs, tg_n, tg_t2, tg_t3, tg_t4, Tg.slots, Tg.slotss, wipeE, wr_noexc, Option.map_some, Option.bind_some, reduceIte]
  rw [wo_cons]
  simp only [evIt, evS, evE, evEs, evAn, evOr, wo_outs, wo_nx, wo_rt, wr_bind, wr_ok, wo_ite, wr_ite, wr_lift, wr_tru, someEx, List.length_cons, List.length_nil, List.getElem?_cons_zero, List.getElem?_cons_succ, List.set_cons_zero, List.set_cons_succ, ix_lst, Nat.zero_add, Nat.reduceAdd, slB, isNon, D.isStr, if_true, evSl, evCs, tg_n, tg_t2, tg_t3, tg_t4, Tg.slots, Tg.slotss, wipeE, wr_noexc, Option.map_some, Option.bind_some, reduceIte, items_tup]
  refine wo_for (I := fun i env S' => S' = S ∧ ∃ x5 x6 x7 x8 x9 x10, env = [some (.tup [.str k.base, .tup (k.rates.map rdD), .tup (k.rules.map Rl.d)]), some (.lst ((k.rows ++ (k.rules.take i).map Rl.row).map .str)), some (.str k.base), some (.tup (k.rates.map rdD)), some (.tup (k.rules.map Rl.d)), x5, x6, x7, x8, x9, x10, none]) (k := 0) ⟨rfl, none, none, none, none, none, none, by rw [List.take_zero, List.map_nil, List.append_nil]⟩ (fun i d env S' hd ⟨es, x5, x6, x7, x8, x9, x10, ee⟩ => ?_) fun env S' ⟨es, x5, x6, x7, x8, x9, x10, ee⟩ => ?_
  · subst es ee
    rw [Nat.zero_add, List.getElem?_map] at *
    cases hc : k.rules[i]? with
    | none =>
      rw [hc] at hd
      cases hd
    | some r =>
      rw [hc] at hd
      cases hd
      have lt := (List.getElem?_eq_some_iff.mp hc).1
      have rt := ok.rok r (List.mem_of_getElem? hc)
      rw [show r.d = .tup [.str r.name, .int r.rank, .str r.sort, .tup (r.cs.map Cn.d)] from rfl]
      simp only [evS, evE, evEs, evAn, evOr, wo_outs, wo_nx, wo_rt, wr_bind, wr_ok, wo_ite, wr_ite, wr_lift, wr_tru, someEx, List.length_cons, List.length_nil, List.getElem?_cons_zero, List.getElem?_cons_succ, List.set_cons_zero, List.set_cons_succ, ix_lst, Nat.zero_add, Nat.reduceAdd, slB, isNon, D.isStr, if_true, evSl, evCs, tg_n, tg_t2, tg_t3, tg_t4, Tg.slots, Tg.slotss, wipeE, wr_noexc, Option.map_some, Option.bind_some, reduceIte]
      rw [wo_cons]
      simp only [evS, evE, evEs, evAn, evOr, wo_outs, wo_nx, wo_rt, wr_bind, wr_ok, wo_ite, wr_ite, wr_lift, wr_tru, someEx, List.length_cons, List.length_nil, List.getElem?_cons_zero, List.getElem?_cons_succ, List.set_cons_zero, List.set_cons_succ, ix_lst, Nat.zero_add, Nat.reduceAdd, slB, isNon, D.isStr, if_true, evSl, evCs, tg_n, tg_t2, tg_t3, tg_t4, Tg.slots, Tg.slotss, wipeE, wr_noexc, Option.map_some, Option.bind_some, reduceIte, str_int rt.ok.1 (show r.rank < 2 ^ 60 by have := rt.ok.2.1; omega)]
      rw [wo_cons]
      simp only [evIt, evS, evE, evEs, evAn, evOr, wo_outs, wo_nx, wo_rt, wr_bind, wr_ok, wo_ite, wr_ite, wr_lift, wr_tru, someEx, List.length_cons, List.length_nil, List.getElem?_cons_zero, List.getElem?_cons_succ, List.set_cons_zero, List.set_cons_succ, ix_lst, Nat.zero_add, Nat.reduceAdd, slB, isNon, D.isStr, if_true, evSl, evCs, tg_n, tg_t2, tg_t3, tg_t4, Tg.slots, Tg.slotss, wipeE, wr_noexc, Option.map_some, Option.bind_some, reduceIte, items_tup]
      obtain ⟨fa, fb⟩ := wsOf_len rt.ok.2.2.1
      have lc := rt.ok.2.2.2.2
      refine wo_for (I := fun j env S1 => S1 = S' ∧ ∃ x10, env = [some (.tup [.str k.base, .tup (k.rates.map rdD), .tup (k.rules.map Rl.d)]), some (.lst ((k.rows ++ (k.rules.take i).map Rl.row).map .str)), some (.str k.base), some (.tup (k.rates.map rdD)), some (.tup (k.rules.map Rl.d)), some (.str r.name), some (.int r.rank), some (.str r.sort), some (.tup (r.cs.map Cn.d)), some (.lst ((r.ws ++ wsOf (r.cs.take j)).map .str)), x10, none]) (k := 0) ⟨rfl, _, rfl⟩ (fun j d env S' hd ⟨es, x10, ee⟩ => ?_) fun env S' ⟨es, x10, ee⟩ => ?_
      · subst es ee
        rw [Nat.zero_add, List.getElem?_map] at *
        cases hcc : r.cs[j]? with
        | none =>
          rw [hcc] at hd
          cases hd
        | some c =>
          rw [hcc] at hd
          cases hd
          have lt := (List.getElem?_eq_some_iff.mp hcc).1
          have co := rt.ok.2.2.1 c (List.mem_of_getElem? hcc)
          obtain ⟨ga, gb⟩ := wsOf_len (cs := r.cs.take j) fun x hx => rt.ok.2.2.1 x (List.mem_of_mem_take hx)
          rw [List.length_take] at ga
          simp only [evS, evE, evEs, evAn, evOr, wo_outs, wo_nx, wo_rt, wr_bind, wr_ok, wo_ite, wr_ite, wr_lift, wr_tru, someEx, List.length_cons, List.length_nil, List.getElem?_cons_zero, List.getElem?_cons_succ, List.set_cons_zero, List.set_cons_succ, ix_lst, Nat.zero_add, Nat.reduceAdd, slB, isNon, D.isStr, if_true, evSl, evCs, tg_n, tg_t2, tg_t3, tg_t4, Tg.slots, Tg.slotss, wipeE, wr_noexc, Option.map_some, Option.bind_some, reduceIte]
          rw [wo_cons]
          simp only [evS, evE, evEs, evAn, evOr, wo_outs, wo_nx, wo_rt, wr_bind, wr_ok, wo_ite, wr_ite, wr_lift, wr_tru, someEx, List.length_cons, List.length_nil, List.getElem?_cons_zero, List.getElem?_cons_succ, List.set_cons_zero, List.set_cons_succ, ix_lst, Nat.zero_add, Nat.reduceAdd, slB, isNon, D.isStr, if_true, evSl, evCs, tg_n, tg_t2, tg_t3, tg_t4, Tg.slots, Tg.slotss, wipeE, wr_noexc, Option.map_some, Option.bind_some, reduceIte, lwords_ok hw h1 co]
          have l1 := (ws_len co).1
          rw [add_lst (by rw [List.length_map, List.length_map, List.length_append]; show (4 + _) + _ ≤ sizeLine; unfold sizeLine; omega)]
          simp only [evS, evE, evEs, evAn, evOr, wo_outs, wo_nx, wo_rt, wr_bind, wr_ok, wo_ite, wr_ite, wr_lift, wr_tru, someEx, List.length_cons, List.length_nil, List.getElem?_cons_zero, List.getElem?_cons_succ, List.set_cons_zero, List.set_cons_succ, ix_lst, Nat.zero_add, Nat.reduceAdd, slB, isNon, D.isStr, if_true, evSl, evCs, tg_n, tg_t2, tg_t3, tg_t4, Tg.slots, Tg.slotss, wipeE, wr_noexc, Option.map_some, Option.bind_some, reduceIte, wo_nil]
          exact ⟨trivial, _, by rw [wsOf_succ hcc, ← List.map_append, List.append_assoc]⟩
      · subst es ee
        rw [Nat.zero_add, List.length_map, List.take_length]
        rw [wo_cons]
        simp only [evS, evE, evEs, evAn, evOr, wo_outs, wo_nx, wo_rt, wr_bind, wr_ok, wo_ite, wr_ite, wr_lift, wr_tru, someEx, List.length_cons, List.length_nil, List.getElem?_cons_zero, List.getElem?_cons_succ, List.set_cons_zero, List.set_cons_succ, ix_lst, Nat.zero_add, Nat.reduceAdd, slB, isNon, D.isStr, if_true, evSl, evCs, tg_n, tg_t2, tg_t3, tg_t4, Tg.slots, Tg.slotss, wipeE, wr_noexc, Option.map_some, Option.bind_some, reduceIte, rt.join]
        rw [if_pos (by rw [List.length_map, List.length_append, List.length_map, List.length_take, sizeLine_eq]; have := ok.rules; omega)]
        rw [wo_cons]
        simp only [evS, evE, evEs, evAn, evOr, wo_outs, wo_nx, wo_rt, wr_bind, wr_ok, wo_ite, wr_ite, wr_lift, wr_tru, someEx, List.length_cons, List.length_nil, List.getElem?_cons_zero, List.getElem?_cons_succ, List.set_cons_zero, List.set_cons_succ, ix_lst, Nat.zero_add, Nat.reduceAdd, slB, isNon, D.isStr, if_true, evSl, evCs, tg_n, tg_t2, tg_t3, tg_t4, Tg.slots, Tg.slotss, wipeE, wr_noexc, Option.map_some, Option.bind_some, reduceIte, wo_nil]
        refine ⟨trivial, some (.str r.name), some (.int r.rank), some (.str r.sort), some (.tup (r.cs.map Cn.d)), some (.lst ((r.ws ++ wsOf r.cs).map .str)), x10, ?_⟩
        have z : (k.rows ++ (k.rules.take (i + 1)).map Rl.row).map D.str = (k.rows ++ (k.rules.take i).map Rl.row).map D.str ++ [D.str r.row] := by
          rw [List.take_add_one, hc]
          simp only [Option.toList_some, List.map_append, List.map_cons, List.map_nil, List.append_assoc]
        rw [z]
  · subst es ee
    rw [Nat.zero_add, List.length_map, List.take_length]
    rw [wo_cons]
    simp only [evS, evE, evEs, evAn, evOr, wo_outs, wo_nx, wo_rt, wr_bind, wr_ok, wo_ite, wr_ite, wr_lift, wr_tru, someEx, List.length_cons, List.length_nil, List.getElem?_cons_zero, List.getElem?_cons_succ, List.set_cons_zero, List.set_cons_succ, ix_lst, Nat.zero_add, Nat.reduceAdd, slB, isNon, D.isStr, if_true, evSl, evCs, tg_n, tg_t2, tg_t3, tg_t4, Tg.slots, Tg.slotss, wipeE, wr_noexc, Option.map_some, Option.bind_some, reduceIte, ok.join]
    exact ⟨trivial, trivial⟩
end VE

set_option Elab.async false
set_option linter.all false
set_option maxRecDepth 100000
set_option maxHeartbeats 4000000
/-! VL, part 12: what repr tells of plain data. -/
namespace VE
open PySem PySem.Spec PyProof.Rows L2

def sgn (s : Str) : Prop := ∀ c ∈ TL.tl s, c < 0x110000
theorem sgn_of (s : String) : sgn (Str.ofString s) := fun c hc => by
  rw [TL.tl_ofString] at hc
  obtain ⟨x, _, rfl⟩ := List.mem_map.mp hc
  have := x.valid
  rcases this with h | h
  · exact Nat.lt_trans h (by decide)
  · exact h.2
theorem sgn_app {x y : Str} (h : sgn x) (i : sgn y) : sgn (x ++ y) := fun c hc => by
  rw [TL.tl_append] at hc
  rcases List.mem_append.mp hc with q | q
  · exact h c q
  · exact i c q
theorem sgn_iff {s : Str} : s.cps.all (· < 0x110000) = true ↔ sgn s := by
  rw [← Array.all_toList, List.all_eq_true]
  exact ⟨fun h c hc => by simpa using h c hc, fun h c hc => by simpa using h c hc⟩
theorem sgn_hex (c : Nat) (w : Nat) : ∀ d ∈ (List.replicate (w - ((Nat.toDigits 16 c).map Char.toNat).length) 48 ++ (Nat.toDigits 16 c).map Char.toNat), d < 0x110000 := fun d hd => by
  rcases List.mem_append.mp hd with q | q
  · rw [(List.mem_replicate.mp q).2]
    decide
  · obtain ⟨x, _, rfl⟩ := List.mem_map.mp q
    rcases x.valid with h | h
    · exact Nat.lt_trans h (by decide)
    · exact h.2
theorem sgn_rc {q c : Nat} (hc : c < 0x110000) : ∀ d ∈ Builtin.Str.reprChar q c, d < 0x110000 := fun d hd => by
  have two : ∀ {a b : Nat}, a < 0x110000 → b < 0x110000 → d ∈ [a, b] → d < 0x110000 := fun {a b} ha hb h => by
    simp only [List.mem_cons, List.not_mem_nil, or_false] at h
    rcases h with e | e <;> omega
  have lng : ∀ {a b w : Nat}, a < 0x110000 → b < 0x110000 → d ∈ [a, b] ++ (List.replicate (w - ((Nat.toDigits 16 c).map Char.toNat).length) 48 ++ (Nat.toDigits 16 c).map Char.toNat) → d < 0x110000 := fun {a b w} ha hb h => by
    rcases List.mem_append.mp h with q | q
    · exact two ha hb q
    · exact sgn_hex c w d q
  unfold Builtin.Str.reprChar at hd
  dsimp only at hd
  split at hd
  · exact two (by decide) hc hd
  split at hd
  · exact two (by decide) (by decide) hd
  split at hd
  · exact two (by decide) (by decide) hd
  split at hd
  · exact two (by decide) (by decide) hd
  split at hd
  · rw [List.mem_singleton.mp hd]
    exact hc
  split at hd
  · exact lng (by decide) (by decide) hd
  split at hd
  · exact lng (by decide) (by decide) hd
  · exact lng (by decide) (by decide) hd
theorem sgn_fold {q : Nat} : ∀ (l : List Nat) (acc : Array Nat), (∀ c ∈ acc.toList, c < 0x110000) → (∀ c ∈ l, c < 0x110000) → ∀ c ∈ (l.foldl (fun out c => out ++ (Builtin.Str.reprChar q c).toArray) acc).toList, c < 0x110000
  | [], acc, h, _ => h
  | x :: l, acc, h, i => by
    rw [List.foldl_cons]
    refine sgn_fold l _ (fun c hc => ?_) fun c hc => i c (List.mem_cons_of_mem _ hc)
    rw [Array.toList_append] at hc
    rcases List.mem_append.mp hc with z | z
    · exact h c z
    · exact sgn_rc (i x List.mem_cons_self) c z
theorem sgn_rep {x : Str} (h : sgn x) : sgn (reprText x) := fun c hc => by
  have q : reprQuote x < 0x110000 := by
    unfold reprQuote
    split <;> decide
  have hc : c ∈ ((x.cps.foldl (fun out c => out ++ (Builtin.Str.reprChar (reprQuote x) c).toArray) #[reprQuote x]).push (reprQuote x)).toList := hc
  rw [Array.toList_push, ← Array.foldl_toList] at hc
  rcases List.mem_append.mp hc with z | z
  · exact sgn_fold _ _ (fun d hd => by
      have : d ∈ [reprQuote x] := hd
      rw [List.mem_singleton.mp this]
      exact q) h c z
  · rw [List.mem_singleton.mp z]
    exact q
theorem sgn_from : ∀ (ts : List Str) (k : Nat) (acc : Str), sgn acc → (∀ t ∈ ts, sgn t) → sgn (textFrom k acc ts)
  | [], _, _, h, _ => h
  | t :: ts, k, acc, h, i => by
    unfold textFrom
    refine sgn_from ts _ _ (sgn_app (sgn_app h ?_) (i t List.mem_cons_self)) fun u hu => i u (List.mem_cons_of_mem _ hu)
    exact sgn_of _
theorem sgn_list {ts : List Str} (i : ∀ t ∈ ts, sgn t) : sgn (listText ts) := sgn_app (sgn_from ts 0 "[" (sgn_of _) i) (sgn_of _)
theorem sgn_join {s : Str} (h : sgn s) : ∀ {ts : List Str}, (∀ t ∈ ts, sgn t) → sgn (Str.join s ts)
  | [], _ => fun c hc => nomatch hc
  | [x], i => by
    unfold Str.join
    exact i x List.mem_cons_self
  | x :: y :: r, i => by
    unfold Str.join
    exact sgn_app (sgn_app (i x List.mem_cons_self) h) (sgn_join h fun t ht => i t (List.mem_cons_of_mem _ ht))
theorem sgn_tup {ts : List Str} (i : ∀ t ∈ ts, sgn t) : sgn (tupleText ts) := sgn_app (sgn_app (sgn_of _) (sgn_join (sgn_of _) i)) (sgn_of _)
mutual
def D.nice : D → Bool
  | .non => true
  | .bl _ => true
  | .int i => decide (i.natAbs < 10 ^ 12)
  | .str s => s.cps.all (· < 0x110000)
  | .tup xs => D.nices xs
  | .lst xs => D.nices xs
  | _ => false
def D.nices : List D → Bool
  | [] => true
  | x :: xs => D.nice x && D.nices xs
end
mutual
def D.blk : D → Nat
  | .str s => s.length
  | .tup xs => D.blks xs
  | .lst xs => D.blks xs
  | _ => 0
def D.blks : List D → Nat
  | [] => 0
  | x :: xs => D.blk x + 1 + D.blks xs
end
mutual
def D.dep : D → Nat
  | .tup xs => D.deps xs + 1
  | .lst xs => D.deps xs + 1
  | _ => 0
def D.deps : List D → Nat
  | [] => 0
  | x :: xs => max (D.dep x) (D.deps xs)
end
structure NiceP (d : D) (p : PyData) : Prop where
  pd : d.pd = some p
  sh : p.showable = true
  lv : p.leavesShort 13 = true
  bk : p.bulk = d.blk
  dp : p.depth = d.dep
  ck : sgn p.shown
structure NicePs (xs : List D) (ps : List PyData) : Prop where
  pd : D.pds xs = some ps
  sh : PyData.showableAll ps = true
  lv : PyData.leavesShortAll 13 ps = true
  bk : PyData.bulkAll ps = D.blks xs
  dp : PyData.depthAll ps = D.deps xs
  ck : ∀ t ∈ PyData.shownAll ps, sgn t
mutual
theorem nice_pd : ∀ {d : D}, d.nice = true → ∃ p, NiceP d p
  | .non, _ => ⟨.none, rfl, rfl, rfl, rfl, rfl, sgn_of _⟩
  | .bl b, _ => ⟨.bool b, rfl, rfl, rfl, rfl, rfl, by cases b <;> exact sgn_of _⟩
  | .int i, h => by
    have h : i.natAbs < 10 ^ 12 := by simpa [D.nice] using h
    refine ⟨.int i, rfl, ?_, ?_, rfl, rfl, sgn_of _⟩
    · show decide (i.natAbs.log2 < 1920) = true
      rw [decide_eq_true_eq]
      by_cases z : i.natAbs = 0
      · rw [z]
        decide
      · exact Nat.lt_of_lt_of_le ((Nat.log2_lt z).mpr (Nat.lt_trans h (by decide : 10 ^ 12 < 2 ^ 40))) (by decide)
    · show decide ((PyData.shown (.int i)).length ≤ 13) = true
      rw [decide_eq_true_eq]
      show (Str.ofString (toString i)).length ≤ 13
      have := int_text_length_le10 (a := i) (k := 12) (by decide) h
      rw [TL.len_tl, TL.tl_ofString, List.length_map]
      exact this
  | .str s, h => by
    have h : s.cps.all (· < 0x110000) = true := by simpa only [D.nice] using h
    have c := sgn_iff.mp h
    refine ⟨.str s, rfl, rfl, ?_, rfl, rfl, sgn_rep c⟩
    show (s.cps.toList.all fun c => decide (c < 16 ^ 8)) = true
    rw [List.all_eq_true]
    intro x hx
    have := c x hx
    exact decide_eq_true (Nat.lt_trans this (by decide))
  | .tup xs, h => by
    obtain ⟨ps, a, b, c, d, e, f⟩ := nice_pds (xs := xs) (by simpa only [D.nice] using h)
    refine ⟨.tuple ps, by simp only [D.pd, a, Option.map_some], by simpa only [PyData.showable] using b, by simpa only [PyData.leavesShort] using c, by simpa only [PyData.bulk, D.blk] using d, by simp only [PyData.depth, D.dep, e], ?_⟩
    simp only [PyData.shown]
    exact sgn_tup f
  | .lst xs, h => by
    obtain ⟨ps, a, b, c, d, e, f⟩ := nice_pds (xs := xs) (by simpa only [D.nice] using h)
    refine ⟨.list ps, by simp only [D.pd, a, Option.map_some], by simpa only [PyData.showable] using b, by simpa only [PyData.leavesShort] using c, by simpa only [PyData.bulk, D.blk] using d, by simp only [PyData.depth, D.dep, e], ?_⟩
    simp only [PyData.shown]
    exact sgn_list f
  | .fz _, h => by simp [D.nice] at h
  | .dK _, h => by simp [D.nice] at h
  | .dT _, h => by simp [D.nice] at h
  | .obj _, h => by simp [D.nice] at h
  | .ins _ _, h => by simp [D.nice] at h
theorem nice_pds : ∀ {xs : List D}, D.nices xs = true → ∃ ps, NicePs xs ps
  | [], _ => ⟨[], rfl, rfl, rfl, rfl, rfl, fun t h => nomatch h⟩
  | x :: xs, h => by
    have h : x.nice = true ∧ D.nices xs = true := by simpa only [D.nices, Bool.and_eq_true] using h
    obtain ⟨p, a, b, c, d, e, f⟩ := nice_pd h.1
    obtain ⟨ps, a', b', c', d', e', f'⟩ := nice_pds h.2
    refine ⟨p :: ps, by simp only [D.pds, a, a'], by simp only [PyData.showableAll, b, b', Bool.and_self], by simp only [PyData.leavesShortAll, c, c', Bool.and_self], by simp only [PyData.bulkAll, D.blks, d, d'], by simp only [PyData.depthAll, D.deps, e, e'], fun t ht => ?_⟩
    simp only [PyData.shownAll, List.mem_cons] at ht
    rcases ht with q | q
    · rw [q]
      exact f
    · exact f' t q
end
theorem repr_ev {xs : List D} (h : D.nices xs = true) (hb : D.blks xs ≤ 2 ^ 20) (hd : D.deps xs ≤ 63) : ∃ s, evBi .repr [.lst xs] = some (.str s) := by
  obtain ⟨p, a, b, c, d, e, f⟩ := nice_pd (d := .lst xs) (by simpa only [D.nice] using h)
  refine ⟨p.shown, ?_⟩
  show (match (D.lst xs).pd with
    | some p => if (p.depth ≤ 64 ∧ p.showable = true) ∧ p.shown.length ≤ sizeLine ∧ p.shown.cps.all (· < 0x110000) = true then some (D.str p.shown) else none
    | none => none) = _
  rw [a]
  dsimp only
  refine if_pos ⟨⟨?_, b⟩, ?_, sgn_iff.mpr f⟩
  · rw [e]
    show D.deps xs + 1 ≤ 64
    omega
  · refine PyData.shown_fits_bulk (by decide) (by decide) c ?_
    rw [d]
    exact hb
theorem nices_iff {xs : List D} : D.nices xs = true ↔ ∀ x ∈ xs, x.nice = true := by
  induction xs with
  | nil => simp [D.nices]
  | cons x xs ih => simp only [D.nices, Bool.and_eq_true, ih, List.mem_cons, forall_eq_or_imp]
theorem blks_le {k : Nat} {xs : List D} (h : ∀ x ∈ xs, x.blk ≤ k) : D.blks xs ≤ xs.length * (k + 1) := by
  induction xs with
  | nil => simp [D.blks]
  | cons x xs ih =>
    have a := ih fun y hy => h y (List.mem_cons_of_mem _ hy)
    have b := h x List.mem_cons_self
    rw [D.blks, List.length_cons, Nat.add_mul]
    omega
theorem deps_le {k : Nat} {xs : List D} (h : ∀ x ∈ xs, x.dep ≤ k) : D.deps xs ≤ k := by
  induction xs with
  | nil => exact Nat.zero_le _
  | cons x xs ih =>
    rw [D.deps]
    exact Nat.max_le.mpr ⟨h x List.mem_cons_self, ih fun y hy => h y (List.mem_cons_of_mem _ hy)⟩
end VE

set_option Elab.async false
set_option linter.all false
set_option maxRecDepth 100000
set_option maxHeartbeats 4000000
/-! VL, part 13: books written. -/
namespace VE
open PySem PySem.Spec PyProof.Rows L2

theorem nice_str {s : Str} (h : sgn s) : (D.str s).nice = true := by
  simp only [D.nice]
  exact sgn_iff.mpr h
theorem nice_int {i : Int} (h : i.natAbs < 10 ^ 12) : (D.int i).nice = true := by
  simp only [D.nice]
  exact decide_eq_true h
theorem Name.sgn {w : Str} (h : Name w) : sgn w := fun c hc => by
  have := h.2.2 c hc
  omega
theorem nice_tup {xs : List D} (h : ∀ x ∈ xs, x.nice = true) : (D.tup xs).nice = true := by
  simp only [D.nice]
  exact nices_iff.mpr h
theorem nice_cn {c : Cn} (h : c.Ok) : c.d.nice = true ∧ c.d.blk ≤ 13 ∧ c.d.dep ≤ 2 := by
  cases c with
  | feast => exact ⟨by decide +kernel, by decide +kernel, by decide +kernel⟩
  | days ns =>
    have dp : D.deps (ns.map .int) ≤ 0 := deps_le fun x hx => by
      obtain ⟨y, _, rfl⟩ := List.mem_map.mp hx
      exact Nat.le_refl _
    have bk : D.blks (ns.map .int) ≤ (ns.map D.int).length * (0 + 1) := blks_le fun x hx => by
      obtain ⟨y, _, rfl⟩ := List.mem_map.mp hx
      exact Nat.le_refl _
    rw [List.length_map] at bk
    have l := h.2.1
    refine ⟨nice_tup fun x hx => ?_, ?_, ?_⟩
    · rcases List.mem_cons.mp hx with e | hx
      · rw [e]
        exact nice_str (sgn_of _)
      · rw [List.mem_singleton.mp hx]
        refine nice_tup fun y hy => ?_
        obtain ⟨z, hz, rfl⟩ := List.mem_map.mp hy
        have := h.2.2.2 z hz
        exact nice_int (by omega)
    · show 4 + 1 + (D.blks (ns.map .int) + 1 + 0) ≤ 13
      omega
    · show max 0 (max (D.deps (ns.map .int) + 1) 0) + 1 ≤ 2
      omega
  | clock a b =>
    obtain ⟨a0, a1, b0, b1, _⟩ := h
    refine ⟨nice_tup fun x hx => ?_, (by decide : 5 + 1 + (0 + 1 + (0 + 1 + 0)) ≤ 13), (by decide : max 0 (max 0 (max 0 0)) + 1 ≤ 2)⟩
    have : x = .str "clock" ∨ x = .int a ∨ x = .int b := by simpa using hx
    rcases this with e | e | e <;> subst e
    · exact nice_str (sgn_of _)
    · exact nice_int (by omega)
    · exact nice_int (by omega)
  | num w n =>
    have nb : 1 ≤ n ∧ n ≤ 10080 := by rcases h with ⟨_, a, b⟩ | ⟨_, a, b⟩ <;> omega
    have wl : w.length ≤ 4 ∧ VE.sgn w := by
      rcases h with ⟨e, _⟩ | ⟨e, _⟩ <;> subst e
      · exact ⟨by decide, sgn_of _⟩
      · exact ⟨by decide, sgn_of _⟩
    refine ⟨nice_tup fun x hx => ?_, ?_, ?_⟩
    · have : x = .str w ∨ x = .int n := by simpa using hx
      rcases this with e | e <;> subst e
      · exact nice_str wl.2
      · exact nice_int (by omega)
    · show w.length + 1 + (0 + 1 + 0) ≤ 13
      omega
    · show max 0 (max 0 0) + 1 ≤ 2
      omega
structure RlN (r : Rl) : Prop where
  t : RlT r
  nc : sgn r.name
  sc : sgn r.sort
theorem nice_rl {r : Rl} (h : RlN r) : r.d.nice = true ∧ r.d.blk ≤ 90 ∧ r.d.dep ≤ 4 := by
  have cn : ∀ x ∈ r.cs.map Cn.d, x.nice = true ∧ x.blk ≤ 13 ∧ x.dep ≤ 2 := fun x hx => by
    obtain ⟨c, hc, rfl⟩ := List.mem_map.mp hx
    exact nice_cn (h.t.ok.2.2.1 c hc)
  have dp : D.deps (r.cs.map Cn.d) ≤ 2 := deps_le fun x hx => (cn x hx).2.2
  have bk := blks_le (k := 13) (xs := r.cs.map Cn.d) fun x hx => (cn x hx).2.1
  rw [List.length_map] at bk
  have l := h.t.ok.2.2.2.2
  have n8 := h.t.nm
  have s8 := h.t.so
  have rk := h.t.ok.1
  have rk2 := h.t.ok.2.1
  refine ⟨nice_tup fun x hx => ?_, ?_, ?_⟩
  · have : x = .str r.name ∨ x = .int r.rank ∨ x = .str r.sort ∨ x = .tup (r.cs.map Cn.d) := by simpa using hx
    rcases this with e | e | e | e <;> subst e
    · exact nice_str h.nc
    · exact nice_int (by omega)
    · exact nice_str h.sc
    · exact nice_tup fun y hy => (cn y hy).1
  · show r.name.length + 1 + (0 + 1 + (r.sort.length + 1 + (D.blks (r.cs.map Cn.d) + 1 + 0))) ≤ 90
    omega
  · show max 0 (max 0 (max 0 (max (D.deps (r.cs.map Cn.d) + 1) 0))) + 1 ≤ 4
    omega
structure BkN (k : Bk) : Prop where
  base : k.base.length ≤ 8 ∧ sgn k.base
  few : k.rates.length ≤ 21
  names : ∀ p ∈ k.rates, (p.1.length ≤ 8 ∧ sgn p.1) ∧ 0 ≤ p.2 ∧ p.2 ≤ 1000000
  rules : k.rules.length ≤ 8
  rok : ∀ r ∈ k.rules, RlN r
theorem BkN.t {k : Bk} (h : BkN k) : BkT k := ⟨h.base.1, h.few, fun p hp => ⟨(h.names p hp).1.1, (h.names p hp).2⟩, h.rules, fun r hr => (h.rok r hr).t⟩
theorem BkOk.n {k : Bk} (h : BkOk k) : BkN k := by
  have nm : ∀ w ∈ k.rates.map (·.1), w.length ≤ 8 ∧ sgn w := fun w hw => by
    obtain ⟨p, hp, rfl⟩ := List.mem_map.mp hw
    exact ⟨(h.names p hp).1.2.1, (h.names p hp).1.sgn⟩
  refine ⟨nm _ h.base, h.few, fun p hp => ⟨nm _ (List.mem_map_of_mem hp), (h.names p hp).2⟩, h.rules, fun r hr => ?_⟩
  obtain ⟨a, b, c⟩ := h.rok r hr
  exact ⟨⟨a, b.2.1, (nm _ c).1⟩, b.sgn, (nm _ c).2⟩
def Bk.back (k : Bk) : Bk := ⟨k.base, k.rates, k.rules.reverse⟩
theorem BkN.back {k : Bk} (h : BkN k) : BkN k.back := ⟨h.base, h.few, h.names, by
  show k.rules.reverse.length ≤ 8
  rw [List.length_reverse]
  exact h.rules, fun r hr => h.rok r (List.mem_reverse.mp hr)⟩
theorem nice_bk {k : Bk} (h : BkN k) : k.d.nice = true ∧ k.d.blk ≤ 1000 ∧ k.d.dep ≤ 6 := by
  have rl : ∀ x ∈ k.rules.map Rl.d, x.nice = true ∧ x.blk ≤ 90 ∧ x.dep ≤ 4 := fun x hx => by
    obtain ⟨c, hc, rfl⟩ := List.mem_map.mp hx
    exact nice_rl (h.rok c hc)
  have rd : ∀ x ∈ k.rates.map rdD, x.nice = true ∧ x.blk ≤ 10 ∧ x.dep ≤ 4 := fun x hx => by
    obtain ⟨p, hp, rfl⟩ := List.mem_map.mp hx
    obtain ⟨⟨a, b⟩, c, d⟩ := h.names p hp
    refine ⟨nice_tup fun y hy => ?_, ?_, ?_⟩
    · have : y = .str p.1 ∨ y = .int p.2 := by simpa using hy
      rcases this with e | e <;> subst e
      · exact nice_str b
      · exact nice_int (by omega)
    · show p.1.length + 1 + (0 + 1 + 0) ≤ 10
      omega
    · show max 0 (max 0 0) + 1 ≤ 4
      omega
  have dp : D.deps (k.rules.map Rl.d) ≤ 4 := deps_le fun x hx => (rl x hx).2.2
  have bk := blks_le (k := 90) (xs := k.rules.map Rl.d) fun x hx => (rl x hx).2.1
  have dp2 : D.deps (k.rates.map rdD) ≤ 4 := deps_le fun x hx => (rd x hx).2.2
  have bk2 := blks_le (k := 10) (xs := k.rates.map rdD) fun x hx => (rd x hx).2.1
  rw [List.length_map] at bk bk2
  have l := h.rules
  have l2 := h.few
  have b8 := h.base.1
  refine ⟨nice_tup fun x hx => ?_, ?_, ?_⟩
  · have : x = .str k.base ∨ x = .tup (k.rates.map rdD) ∨ x = .tup (k.rules.map Rl.d) := by simpa using hx
    rcases this with e | e | e <;> subst e
    · exact nice_str h.base.2
    · exact nice_tup fun y hy => (rd y hy).1
    · exact nice_tup fun y hy => (rl y hy).1
  · show k.base.length + 1 + (D.blks (k.rates.map rdD) + 1 + (D.blks (k.rules.map Rl.d) + 1 + 0)) ≤ 1000
    omega
  · show max 0 (max (D.deps (k.rates.map rdD) + 1) (max (D.deps (k.rules.map Rl.d) + 1) 0)) + 1 ≤ 6
    omega
theorem repr_books {ks : List Bk} (h : ∀ k ∈ ks, BkN k) (l : ks.length ≤ 100) : ∃ s, evBi .repr [.lst (ks.map Bk.d)] = some (.str s) := by
  have nb : ∀ x ∈ ks.map Bk.d, x.nice = true ∧ x.blk ≤ 1000 ∧ x.dep ≤ 6 := fun x hx => by
    obtain ⟨c, hc, rfl⟩ := List.mem_map.mp hx
    exact nice_bk (h c hc)
  have bk := blks_le (k := 1000) (xs := ks.map Bk.d) fun x hx => (nb x hx).2.1
  rw [List.length_map] at bk
  refine repr_ev (nices_iff.mpr fun x hx => (nb x hx).1) ?_ (Nat.le_trans (deps_le fun x hx => (nb x hx).2.2) (by decide))
  have : (2 : Nat) ^ 20 = 1048576 := by decide
  omega
theorem ne_str (x y : Str) : evCmp .ne (.str x) (.str y) = some (!(x == y)) := by
  have : evEq (.str x) (.str y) = some (x == y) := eq_str x y
  show (evEq (.str x) (.str y)).map (!·) = _
  rw [this]
  rfl
def tapeF : Fn := ⟨1, 1, false, [
  .ret (.box [.sl (.v 0) (.non) (.int 63), .int 0, .int 0])]⟩
theorem tape_ok {P : Prog} {n kt : Nat} {ns : List Int} (ht : P.fns[kt]? = some tapeF) (l : ns.length ≤ 63) : run P (n + 1) kt [.fz (ns.map .int)] [] = .ok (.obj 0) (Tp ns 0 0) := by
  have : Wr (run P (n + 1) kt [.fz (ns.map .int)] []) fun a S' => a = .obj 0 ∧ S' = Tp ns 0 0 := by
    refine wr_run ht rfl ?_
    show Wo (evSs P.gl (run P n) tapeF.body [some (.fz (ns.map .int))] []) _ _
    unfold tapeF
    dsimp only
    rw [wo_cons]
    simp only [evS, evE, evEs, evAn, evOr, wo_outs, wo_nx, wo_rt, wr_bind, wr_ok, wo_ite, wr_ite, wr_lift, wr_tru, someEx, List.length_cons, List.length_nil, List.getElem?_cons_zero, List.getElem?_cons_succ, List.set_cons_zero, List.set_cons_succ, ix_lst, Nat.zero_add, Nat.reduceAdd, slB, isNon, D.isStr, if_true, evSl, evCs, tg_n, tg_t2, tg_t3, tg_t4, Tg.slots, Tg.slotss, wipeE, wr_noexc, Option.map_some, Option.bind_some, reduceIte]
    rw [cut_to _ (show (0 : Int) ≤ 63 by decide), ← List.map_take, List.take_of_length_le (show ns.length ≤ (63 : Int).toNat from l)]
    exact ⟨trivial, rfl⟩
  exact wr_eq this
def law58 (kt kw ks kx : Nat) : Fn := ⟨1, 7, true, [
  .asg 1 (.call kt [.v 0]),
  .asg 2 (.comp (.call kw [.v 1]) (.n 6) (.rng [.int 3]) []),
  .app 2 (.bin .add (.sl (.ix (.v 2) (.int 0)) (.non) (.int 2)) (.tup [.rev (.ix (.ix (.v 2) (.int 0)) (.int 2))])),
  .asg 3 (.bi .repr [.v 2]),
  .forr (.n 4) (.bin .add (.v 2) (.sl (.v 2) (.non) (.int 1))) [.asg 5 (.call ks [.v 4]), .iff (.orr [.no (.isi (.v 5) .str), .cmp .ne (.v 5) (.call kx [.v 4])]) [.ret (.bl false)] [], .frz [5]],
  .ret (.cmp .eq (.bi .repr [.v 2]) (.v 3))]⟩
def WideFn (rc : Nat → List D → Sto → Res D) (kw : Nat) (cells : List Int) : Prop := ∀ (b : Int) (S : Sto), StB cells b S → b + 600 ≤ 2 ^ 60 → Wr (rc kw [.obj 0] S) fun d S => (∃ k : Bk, d = k.d ∧ BkOk k) ∧ StB cells (b + 600) S
theorem law58_ok {gl : List D} {rc : Nat → List D → Sto → Res D} {kt kw ks kx : Nat} {ns : List Int} (tp : rc kt [.fz (ns.map .int)] [] = .ok (.obj 0) (Tp ns 0 0)) (wf : WideFn rc kw ns)
    (sf : ∀ (k : Bk) (S : Sto), BkT k → rc ks [k.d] S = .ok (.str k.text) S) (xf : ∀ (k : Bk) (S : Sto), BkT k → rc kx [k.d] S = .ok (.str k.text) S) {N : Env → Sto → Prop} :
    Wo (evSs gl rc (law58 kt kw ks kx).body (startE (law58 kt kw ks kx).nl [.fz (ns.map .int)]) []) N fun d S => d = .bl true := by
  show Wo (evSs gl rc (law58 kt kw ks kx).body [some (.fz (ns.map .int)), none, none, none, none, none, none] []) N _
  unfold law58
  dsimp only
  rw [wo_cons]
  simp only [evS, evE, evEs, evAn, evOr, wo_outs, wo_nx, wo_rt, wr_bind, wr_ok, wo_ite, wr_ite, wr_lift, wr_tru, someEx, List.length_cons, List.length_nil, List.getElem?_cons_zero, List.getElem?_cons_succ, List.set_cons_zero, List.set_cons_succ, ix_lst, Nat.zero_add, Nat.reduceAdd, slB, isNon, D.isStr, if_true, evSl, evCs, tg_n, tg_t2, tg_t3, tg_t4, Tg.slots, Tg.slotss, wipeE, wr_noexc, Option.map_some, Option.bind_some, reduceIte, tp]
  have h0 : StB ns 0 (Tp ns 0 0) := ⟨0, 0, by decide, by decide, rfl⟩
  revert h0
  generalize Tp ns 0 0 = S0
  intro h0
  rw [wo_cons]
  simp only [evS, evE, evEs, evAn, evOr, wo_outs, wo_nx, wo_rt, wr_bind, wr_ok, wo_ite, wr_ite, wr_lift, wr_tru, someEx, List.length_cons, List.length_nil, List.getElem?_cons_zero, List.getElem?_cons_succ, List.set_cons_zero, List.set_cons_succ, ix_lst, Nat.zero_add, Nat.reduceAdd, slB, isNon, D.isStr, if_true, evSl, evCs, tg_n, tg_t2, tg_t3, tg_t4, Tg.slots, Tg.slotss, wipeE, wr_noexc, Option.map_some, Option.bind_some, reduceIte, items_lst, rng1 (show (0 : Int) ≤ 3 by decide) (show (3 : Int) ≤ 16777216 by decide)]
  refine wr_map (I := fun i S => StB ns (600 * i) S) (P := fun _ _ y => ∃ k : Bk, y = k.d ∧ BkOk k) (k := 0) (by simpa using h0) (fun i d S hd hi => ?_) fun r S1 h1 rl rp => ?_
  · obtain ⟨rfl, lt⟩ := range_get hd
    have lt : i < 3 := lt
    simp only [evS, evE, evEs, evAn, evOr, wo_outs, wo_nx, wo_rt, wr_bind, wr_ok, wo_ite, wr_ite, wr_lift, wr_tru, someEx, List.length_cons, List.length_nil, List.getElem?_cons_zero, List.getElem?_cons_succ, List.set_cons_zero, List.set_cons_succ, ix_lst, Nat.zero_add, Nat.reduceAdd, slB, isNon, D.isStr, if_true, evSl, evCs, tg_n, tg_t2, tg_t3, tg_t4, Tg.slots, Tg.slotss, wipeE, wr_noexc, Option.map_some, Option.bind_some, reduceIte]
    refine wr_mono (wf _ S hi (by omega)) fun d S ⟨⟨k, e, ok⟩, h⟩ => ?_
    first
      | exact ⟨h.up (by omega), k, e, ok⟩
      | exact ⟨h.up (by omega), _, rfl, k, e, ok⟩
  · rw [List.length_map, List.length_range] at rl
    have rl : r.length = 3 := rl
    obtain ⟨ks', er, lr, pr⟩ := unmapP (f := Bk.d) (P := fun _ k => BkOk k) (r := r) (fun i y hy => by
      have lt : i < 3 := by
        rw [← rl]
        exact (List.getElem?_eq_some_iff.mp hy).1
      exact rp i _ y (range_at (n := 3) lt) hy)
    subst er
    obtain ⟨k0, k1, k2, e3⟩ : ∃ k0 k1 k2, ks' = [k0, k1, k2] := by
      match ks', lr.trans rl with
      | [a, b, c], _ => exact ⟨a, b, c, rfl⟩
    subst e3
    have n0 := (pr 0 k0 rfl).n
    have n1 := (pr 1 k1 rfl).n
    have n2 := (pr 2 k2 rfl).n
    have nb := n0.back
    clear rp pr rl h1
    rw [wo_cons]
    have a0 : atI [k0.d, k1.d, k2.d] 0 = some (.tup [.str k0.base, .tup (k0.rates.map rdD), .tup (k0.rules.map Rl.d)]) := at0 _ _
    have e1 : cutD [.str k0.base, .tup (k0.rates.map rdD), .tup (k0.rules.map Rl.d)] none (some 2) = [.str k0.base, .tup (k0.rates.map rdD)] := cut_to _ (show (0 : Int) ≤ 2 by decide)
    have e3 : evRev (.tup (k0.rules.map Rl.d)) = some (.tup (k0.back.rules.map Rl.d)) := by
      show some (D.tup (k0.rules.map Rl.d).reverse) = some (D.tup (k0.rules.reverse.map Rl.d))
      rw [List.map_reverse]
    have e4 : evBin .add (.tup [.str k0.base, .tup (k0.rates.map rdD)]) (.tup [.tup (k0.back.rules.map Rl.d)]) = some k0.back.d := by
      have l3 : [D.str k0.base, .tup (k0.rates.map rdD)].length + [D.tup (k0.back.rules.map Rl.d)].length ≤ sizeLine := (by decide : 3 ≤ sizeLine)
      rw [add_tup l3]
      rfl
    simp only [List.map_cons, List.map_nil, evS, evE, evEs, evAn, evOr, wo_outs, wo_nx, wo_rt, wr_bind, wr_ok, wo_ite, wr_ite, wr_lift, wr_tru, someEx, List.length_cons, List.length_nil, List.getElem?_cons_zero, List.getElem?_cons_succ, List.set_cons_zero, List.set_cons_succ, ix_lst, Nat.zero_add, Nat.reduceAdd, slB, isNon, D.isStr, if_true, evSl, evCs, tg_n, tg_t2, tg_t3, tg_t4, Tg.slots, Tg.slotss, wipeE, wr_noexc, Option.map_some, Option.bind_some, reduceIte, a0, e1, e3, e4, ix_tup, at2]
    rw [if_pos (show 3 < sizeLine by decide)]
    have eb : [k0.d, k1.d, k2.d] ++ [k0.back.d] = [k0, k1, k2, k0.back].map Bk.d := rfl
    have okN : ∀ k ∈ [k0, k1, k2, k0.back], BkN k := fun k hk => by
      have : k = k0 ∨ k = k1 ∨ k = k2 ∨ k = k0.back := by simpa using hk
      rcases this with e | e | e | e <;> subst e <;> assumption
    rw [eb]
    have lb : [k0, k1, k2, k0.back].length = 4 := rfl
    obtain ⟨s, es⟩ := repr_books okN (by rw [lb]; decide)
    revert okN es lb
    generalize [k0, k1, k2, k0.back] = books
    intro okN lb es
    rw [wo_cons]
    simp only [evS, evE, evEs, evAn, evOr, wo_outs, wo_nx, wo_rt, wr_bind, wr_ok, wo_ite, wr_ite, wr_lift, wr_tru, someEx, List.length_cons, List.length_nil, List.getElem?_cons_zero, List.getElem?_cons_succ, List.set_cons_zero, List.set_cons_succ, ix_lst, Nat.zero_add, Nat.reduceAdd, slB, isNon, D.isStr, if_true, evSl, evCs, tg_n, tg_t2, tg_t3, tg_t4, Tg.slots, Tg.slotss, wipeE, wr_noexc, Option.map_some, Option.bind_some, reduceIte, es]
    rw [wo_cons]
    have c1 : cutD (books.map Bk.d) none (some 1) = (books.take 1).map Bk.d := by
      rw [cut_to _ (show (0 : Int) ≤ 1 by decide), ← List.map_take]
      rfl
    have ad : evBin .add (.lst (books.map Bk.d)) (.lst ((books.take 1).map Bk.d)) = some (.lst ((books ++ books.take 1).map Bk.d)) := by
      rw [add_lst (by rw [List.length_map, List.length_map, List.length_take, lb, sizeLine_eq]; omega), List.map_append]
    simp only [evIt, evS, evE, evEs, evAn, evOr, wo_outs, wo_nx, wo_rt, wr_bind, wr_ok, wo_ite, wr_ite, wr_lift, wr_tru, someEx, List.length_cons, List.length_nil, List.getElem?_cons_zero, List.getElem?_cons_succ, List.set_cons_zero, List.set_cons_succ, ix_lst, Nat.zero_add, Nat.reduceAdd, slB, isNon, D.isStr, if_true, evSl, evCs, tg_n, tg_t2, tg_t3, tg_t4, Tg.slots, Tg.slotss, wipeE, wr_noexc, Option.map_some, Option.bind_some, reduceIte, c1, ad, items_lst]
    have isS : ∀ x : Str, evIsi (.str x) .str = some true := fun _ => rfl
    refine wo_for (I := fun i env S' => ∃ x4 x5, env = [some (.fz (ns.map .int)), some (.obj 0), some (.lst (books.map Bk.d)), some (.str s), x4, x5, none]) (k := 0) ⟨none, none, rfl⟩ (fun i d env S' hd ⟨x4, x5, ee⟩ => ?_) fun env S' ⟨x4, x5, ee⟩ => ?_
    · subst ee
      obtain ⟨k, hk, rfl⟩ := List.mem_map.mp (List.mem_of_getElem? hd)
      have nk : BkN k := by
        rcases List.mem_append.mp hk with q | q
        · exact okN k q
        · exact okN k (List.mem_of_mem_take q)
      simp only [evS, evE, evEs, evAn, evOr, wo_outs, wo_nx, wo_rt, wr_bind, wr_ok, wo_ite, wr_ite, wr_lift, wr_tru, someEx, List.length_cons, List.length_nil, List.getElem?_cons_zero, List.getElem?_cons_succ, List.set_cons_zero, List.set_cons_succ, ix_lst, Nat.zero_add, Nat.reduceAdd, slB, isNon, D.isStr, if_true, evSl, evCs, tg_n, tg_t2, tg_t3, tg_t4, Tg.slots, Tg.slotss, wipeE, wr_noexc, Option.map_some, Option.bind_some, reduceIte]
      rw [wo_cons]
      simp only [evS, evE, evEs, evAn, evOr, wo_outs, wo_nx, wo_rt, wr_bind, wr_ok, wo_ite, wr_ite, wr_lift, wr_tru, someEx, List.length_cons, List.length_nil, List.getElem?_cons_zero, List.getElem?_cons_succ, List.set_cons_zero, List.set_cons_succ, ix_lst, Nat.zero_add, Nat.reduceAdd, slB, isNon, D.isStr, if_true, evSl, evCs, tg_n, tg_t2, tg_t3, tg_t4, Tg.slots, Tg.slotss, wipeE, wr_noexc, Option.map_some, Option.bind_some, reduceIte, sf k _ nk.t]
      rw [wo_cons]
      simp only [evS, evE, evEs, evAn, evOr, wo_outs, wo_nx, wo_rt, wr_bind, wr_ok, wo_ite, wr_ite, wr_lift, wr_tru, someEx, List.length_cons, List.length_nil, List.getElem?_cons_zero, List.getElem?_cons_succ, List.set_cons_zero, List.set_cons_succ, ix_lst, Nat.zero_add, Nat.reduceAdd, slB, isNon, D.isStr, if_true, evSl, evCs, tg_n, tg_t2, tg_t3, tg_t4, Tg.slots, Tg.slotss, wipeE, wr_noexc, Option.map_some, Option.bind_some, reduceIte, isS, xf k _ nk.t, ne_str, beq_self_eq_true, Bool.not_true, Bool.false_eq_true]
      rw [wo_nil, wo_cons]
      simp only [evS, evE, evEs, evAn, evOr, wo_outs, wo_nx, wo_rt, wr_bind, wr_ok, wo_ite, wr_ite, wr_lift, wr_tru, someEx, List.length_cons, List.length_nil, List.getElem?_cons_zero, List.getElem?_cons_succ, List.set_cons_zero, List.set_cons_succ, ix_lst, Nat.zero_add, Nat.reduceAdd, slB, isNon, D.isStr, if_true, evSl, evCs, tg_n, tg_t2, tg_t3, tg_t4, Tg.slots, Tg.slotss, wipeE, wr_noexc, Option.map_some, Option.bind_some, reduceIte, wo_nil]
      exact ⟨_, _, rfl⟩
    · subst ee
      rw [wo_cons]
      simp only [evS, evE, evEs, evAn, evOr, wo_outs, wo_nx, wo_rt, wr_bind, wr_ok, wo_ite, wr_ite, wr_lift, wr_tru, someEx, List.length_cons, List.length_nil, List.getElem?_cons_zero, List.getElem?_cons_succ, List.set_cons_zero, List.set_cons_succ, ix_lst, Nat.zero_add, Nat.reduceAdd, slB, isNon, D.isStr, if_true, evSl, evCs, tg_n, tg_t2, tg_t3, tg_t4, Tg.slots, Tg.slotss, wipeE, wr_noexc, Option.map_some, Option.bind_some, reduceIte, es, eq_str, beq_self_eq_true]
end VE

set_option Elab.async false
set_option linter.all false
set_option maxRecDepth 100000
set_option maxHeartbeats 4000000
/-! ZL, part 1: texts taken apart; whole numbers, names. -/
namespace VE
open PySem PySem.Spec PyProof.Rows L2

theorem part_ev {x t y : Str} {c : Nat} (et : TL.tl t = [c]) (h : c ∉ TL.tl x) (hl : (x ++ t ++ y).length ≤ sizeLine) : evMe .partition (.str (x ++ t ++ y)) [.str t] = some (.tup [.str x, .str t, .str y]) := by
  have l1 : t.length ≠ 0 := by
    rw [TL.len_tl, et]
    exact Nat.succ_ne_zero _
  have e : TL.par (TL.tl t) [] (TL.tl (x ++ t ++ y)) = some (TL.tl x, TL.tl y) := by
    rw [TL.tl_append, TL.tl_append, List.append_assoc, et]
    exact TL.par_part1 h
  show evPart (x ++ t ++ y) (.str t) = _
  unfold evPart
  dsimp only
  rw [if_pos ⟨l1, hl⟩, e]
theorem split_ev {t : Str} {c : Nat} {ws : List Str} (et : TL.tl t = [c]) (hc : c < 256) (ne : ws ≠ []) (h : ∀ w ∈ ws, c ∉ TL.tl w) (hl : (Txt.join t ws).length + 2 ≤ sizeLine) : evMe .split (.str (Txt.join t ws)) [.str t] = some (.lst (ws.map .str)) := by
  have l1 : t.length ≠ 0 := by
    rw [TL.len_tl, et]
    exact Nat.succ_ne_zero _
  have l2 : t.cps.all (· < 256) = true := by
    rw [← Array.all_toList, show t.cps.toList = [c] from et]
    simpa using hc
  have e : TL.spl (TL.tl t) 0 [] (TL.tl (Txt.join t ws)) = ws.map TL.tl := by
    rw [tl_joinE, et]
    refine TL.spl_join (fun z => ne (List.map_eq_nil_iff.mp z)) fun p hp => ?_
    obtain ⟨w, hw, rfl⟩ := List.mem_map.mp hp
    exact h w hw
  show evSplit (Txt.join t ws) (.str t) = _
  unfold evSplit
  dsimp only
  rw [if_pos ⟨l1, hl, l2⟩, e, List.map_map]
  refine congrArg (fun l => some (D.lst l)) (List.map_congr_left fun w _ => ?_)
  show D.str ⟨(TL.tl w).toArray⟩ = .str w
  rw [TL.mk_tl]
theorem in_lettersN : ∀ n : Nat, n < 26 → evIn (.str ⟨#[97 + n]⟩) (.str letters) = some true := by
  have : ∀ n : Nat, n < 26 → (Builtin.Str.occurrences letters ⟨#[97 + n]⟩ 0 letters.length 1).isEmpty = false := by decide +kernel
  intro n hn
  show some (!(Builtin.Str.occurrences letters ⟨#[97 + n]⟩ 0 letters.length 1).isEmpty) = _
  rw [this n hn]
  rfl
theorem in_letters {c : Nat} (h : 97 ≤ c ∧ c ≤ 122) : evIn (.str ⟨#[c]⟩) (.str letters) = some true := by
  have := in_lettersN (c - 97) (by omega)
  have e : 97 + (c - 97) = c := by omega
  rwa [e] at this
def figs : Str := "0123456789"
theorem in_figsN : ∀ n : Nat, n < 10 → evIn (.str ⟨#[48 + n]⟩) (.str figs) = some true := by
  have : ∀ n : Nat, n < 10 → (Builtin.Str.occurrences figs ⟨#[48 + n]⟩ 0 figs.length 1).isEmpty = false := by decide +kernel
  intro n hn
  show some (!(Builtin.Str.occurrences figs ⟨#[48 + n]⟩ 0 figs.length 1).isEmpty) = _
  rw [this n hn]
  rfl
theorem in_figs {c : Nat} (h : 48 ≤ c ∧ c ≤ 57) : evIn (.str ⟨#[c]⟩) (.str figs) = some true := by
  have := in_figsN (c - 48) (by omega)
  have e : 48 + (c - 48) = c := by omega
  rwa [e] at this
theorem all_true : ∀ {α : Type} (l : List α), evBi .all [.lst (l.map fun _ => D.bl true)] = some (.bl true) := fun {α} l => by
  have : ∀ l : List α, bls? (l.map fun _ => D.bl true) = some (l.map fun _ => true) := fun l => by
    induction l with
    | nil => rfl
    | cons x l ih =>
      show (bls? (l.map fun _ => D.bl true)).map (true :: ·) = _
      rw [ih]
      rfl
  show (bls? (l.map fun _ => D.bl true)).map _ = _
  rw [this]
  have : (l.map fun _ => true).all id = true := by simp
  show some (D.bl ((l.map fun _ => true).all id)) = _
  rw [this]
/-- a comprehension all of whose items are told True -/
theorem compL_true {f : D → Sto → Res (Option D)} {S : Sto} {ds : List D} (h : ∀ d ∈ ds, f d S = .ok (some (.bl true)) S) : compL f ds S = .ok (ds.map fun _ => .bl true) S := by
  have := compL_map (f := f) (S := S) (e := id) (g := fun _ => D.bl true) (as := ds) h
  rwa [List.map_id] at this
theorem items_str (s : Str) : items (.str s) = some ((TL.tl s).map fun c => .str ⟨#[c]⟩) := rfl
theorem evIn_isin (a b : D) : evCmp .isin a b = evIn a b := rfl
theorem isi_int1 (x : Int) : evIsi (.int x) .int = some true := rfl
theorem isi_int2 (x : Int) : evIsi (.int x) .bool = some false := rfl
theorem isi_str (x : Str) : evIsi (.str x) .str = some true := rfl
theorem isi_tup (x : List D) : evIsi (.tup x) .tuple = some true := rfl
def wholeF : Fn := ⟨3, 3, false, [
  .ret (.an [.isi (.v 0) .int, .no (.isi (.v 0) .bool), .chn .le .le (.v 1) (.v 0) (.v 2)])]⟩
theorem whole_ok {P : Prog} {n k : Nat} {x a b : Int} {S : Sto} (hf : P.fns[k]? = some wholeF) (h0 : a ≤ x) (h1 : x ≤ b) : run P (n + 1) k [.int x, .int a, .int b] S = .ok (.bl true) S := by
  refine run_eq hf rfl ?_
  show Wo (evSs P.gl (run P n) wholeF.body [some (.int x), some (.int a), some (.int b)] S) _ _
  unfold wholeF
  dsimp only
  rw [wo_cons]
  simp only [evS, evE, evEs, evAn, evOr, wo_outs, wo_nx, wo_rt, wr_bind, wr_ok, wo_ite, wr_ite, wr_lift, wr_tru, someEx, List.length_cons, List.length_nil, List.getElem?_cons_zero, List.getElem?_cons_succ, List.set_cons_zero, List.set_cons_succ, ix_lst, Nat.zero_add, Nat.reduceAdd, slB, isNon, D.isStr, if_true, evSl, evCs, tg_n, tg_t2, tg_t3, tg_t4, Tg.slots, Tg.slotss, wipeE, wr_noexc, Option.map_some, Option.bind_some, reduceIte, isi_int1, isi_int2, le_int, decide_eq_true h0, decide_eq_true h1, Bool.not_false]
  exact ⟨trivial, trivial⟩
def nameF (g1 g2 : Nat) : Fn := ⟨1, 2, true, [
  .iff (.orr [.no (.isi (.v 0) .str), .no (.chn .le .le (.int 1) (.bi .len [.v 0]) (.g g1))]) [.ret (.bl false)] [],
  .ret (.bi .all [.comp (.cmp .isin (.v 1) (.g g2)) (.n 1) (.v 0) []])]⟩
theorem name_ok {P : Prog} {n k g1 g2 : Nat} {s : Str} {S : Sto} (hf : P.fns[k]? = some (nameF g1 g2)) (e1 : P.gl[g1]? = some (.int 8)) (e2 : P.gl[g2]? = some (.str letters)) (h : Name s) : run P (n + 1) k [.str s] S = .ok (.bl true) S := by
  refine run_eq hf rfl ?_
  show Wo (evSs P.gl (run P n) (nameF g1 g2).body [some (.str s), none] S) _ _
  unfold nameF
  dsimp only
  rw [wo_cons]
  have l1 : (1 : Int) ≤ (s.length : Int) := by have := h.1; omega
  have l2 : (s.length : Int) ≤ 8 := by have := h.2.1; omega
  simp only [evS, evE, evEs, evAn, evOr, wo_outs, wo_nx, wo_rt, wr_bind, wr_ok, wo_ite, wr_ite, wr_lift, wr_tru, someEx, List.length_cons, List.length_nil, List.getElem?_cons_zero, List.getElem?_cons_succ, List.set_cons_zero, List.set_cons_succ, ix_lst, Nat.zero_add, Nat.reduceAdd, slB, isNon, D.isStr, if_true, evSl, evCs, tg_n, tg_t2, tg_t3, tg_t4, Tg.slots, Tg.slotss, wipeE, wr_noexc, Option.map_some, Option.bind_some, reduceIte, isi_str, Bool.not_true, Bool.not_false, len_str, le_int, decide_eq_true l1, e1, decide_eq_true l2, wo_nil, Bool.false_eq_true]
  rw [wo_cons]
  simp only [evS, evE, evEs, evAn, evOr, wo_outs, wo_nx, wo_rt, wr_bind, wr_ok, wo_ite, wr_ite, wr_lift, wr_tru, someEx, List.length_cons, List.length_nil, List.getElem?_cons_zero, List.getElem?_cons_succ, List.set_cons_zero, List.set_cons_succ, ix_lst, Nat.zero_add, Nat.reduceAdd, slB, isNon, D.isStr, if_true, evSl, evCs, tg_n, tg_t2, tg_t3, tg_t4, Tg.slots, Tg.slotss, wipeE, wr_noexc, Option.map_some, Option.bind_some, reduceIte, items_str]
  rw [compL_true (fun d hd => by
    obtain ⟨c, hc, rfl⟩ := List.mem_map.mp hd
    simp only [evS, evE, evEs, evAn, evOr, wo_outs, wo_nx, wo_rt, wr_bind, wr_ok, wo_ite, wr_ite, wr_lift, wr_tru, someEx, List.length_cons, List.length_nil, List.getElem?_cons_zero, List.getElem?_cons_succ, List.set_cons_zero, List.set_cons_succ, ix_lst, Nat.zero_add, Nat.reduceAdd, slB, isNon, D.isStr, if_true, evSl, evCs, tg_n, tg_t2, tg_t3, tg_t4, Tg.slots, Tg.slotss, wipeE, wr_noexc, Option.map_some, Option.bind_some, reduceIte, Res.ok_bind, e2, lift_some, evIn_isin, in_letters (h.2.2 c hc), Res.ok_noexc])]
  simp only [evS, evE, evEs, evAn, evOr, wo_outs, wo_nx, wo_rt, wr_bind, wr_ok, wo_ite, wr_ite, wr_lift, wr_tru, someEx, List.length_cons, List.length_nil, List.getElem?_cons_zero, List.getElem?_cons_succ, List.set_cons_zero, List.set_cons_succ, ix_lst, Nat.zero_add, Nat.reduceAdd, slB, isNon, D.isStr, if_true, evSl, evCs, tg_n, tg_t2, tg_t3, tg_t4, Tg.slots, Tg.slotss, wipeE, wr_noexc, Option.map_some, Option.bind_some, reduceIte, all_true]
  exact ⟨trivial, trivial⟩
end VE

set_option Elab.async false
set_option linter.all false
set_option maxRecDepth 100000
set_option maxHeartbeats 4000000
/-! ZL, part 2: what is a book. -/
namespace VE
open PySem PySem.Spec PyProof.Rows L2

theorem eq_tup0 {x : D} {xs : List D} (h : (D.tup (x :: xs)).nice = true) (hd : (D.tup (x :: xs)).dep ≤ 64) : evCmp .eq (.tup (x :: xs)) (.tup []) = some false := by
  obtain ⟨p, np⟩ := nice_pd h
  have dp := np.dp
  have e := np.pd
  show evEq _ _ = _
  unfold evEq
  have e2 : (D.tup []).pd = some (.tuple []) := rfl
  rw [e, e2]
  dsimp only
  rw [if_pos ⟨by omega, by decide⟩]
  simp only [D.pd, D.pds] at e
  cases q1 : x.pd with
  | none =>
    rw [q1] at e
    cases e
  | some y =>
    cases q2 : D.pds xs with
    | none =>
      rw [q1, q2] at e
      cases e
    | some ys =>
      rw [q1, q2] at e
      cases e
      rfl
theorem zip_next {α : Type} {R : α → α → Prop} : ∀ {l : List α}, l.Pairwise R → ∀ p ∈ l.zip (l.drop 1), R p.1 p.2
  | [], _, p, hp => by cases hp
  | [x], _, p, hp => by cases hp
  | x :: y :: l, h, p, hp => by
    rcases List.mem_cons.mp hp with e | hp
    · rw [e]
      exact List.rel_of_pairwise_cons h List.mem_cons_self
    · exact zip_next (l := y :: l) (List.Pairwise.of_cons h) p hp
def risingF : Fn := ⟨1, 3, true, [
  .ret (.bi .all [.comp (.cmp .lt (.v 1) (.v 2)) (.t [.n 1, .n 2]) (.zip (.v 0) (.sl (.v 0) (.int 1) (.non))) []])]⟩
theorem rising_go {gl : List D} {rc : Nat → List D → Sto → Res D} {xs : D} {ds : List D} {S : Sto} (es : ∃ y, evSl xs (some 1) none = some y ∧ evZipA xs y = some ds) (h : ∀ d ∈ ds, ∃ a b, d = .tup [a, b] ∧ evCmp .lt a b = some true) :
    Wo (evSs gl rc risingF.body [some xs, none, none] S) (fun _ _ => False) fun d S' => d = .bl true ∧ S' = S := by
  obtain ⟨y, e1, e2⟩ := es
  unfold risingF
  dsimp only
  rw [wo_cons]
  simp only [evS, evE, evEs, wo_outs, wr_bind, wr_ok, wr_lift, someEx, slB, isNon, Bool.false_eq_true, List.getElem?_cons_zero, e1, e2, Option.map_some, items_lst]
  rw [compL_true (fun d hd => by
    obtain ⟨a, b, rfl, e⟩ := h d hd
    simp only [evS, evE, evEs, evAn, evOr, wo_outs, wo_nx, wo_rt, wr_bind, wr_ok, wo_ite, wr_ite, wr_lift, wr_tru, someEx, List.length_cons, List.length_nil, List.getElem?_cons_zero, List.getElem?_cons_succ, List.set_cons_zero, List.set_cons_succ, ix_lst, Nat.zero_add, Nat.reduceAdd, slB, isNon, D.isStr, if_true, evSl, evCs, tg_n, tg_t2, tg_t3, tg_t4, Tg.slots, Tg.slotss, wipeE, wr_noexc, Option.map_some, Option.bind_some, reduceIte, List.cons_append, List.nil_append, Res.ok_bind, e, lift_some, Res.ok_noexc])]
  simp only [evS, evE, evEs, evAn, evOr, wo_outs, wo_nx, wo_rt, wr_bind, wr_ok, wo_ite, wr_ite, wr_lift, wr_tru, someEx, List.length_cons, List.length_nil, List.getElem?_cons_zero, List.getElem?_cons_succ, List.set_cons_zero, List.set_cons_succ, ix_lst, Nat.zero_add, Nat.reduceAdd, slB, isNon, D.isStr, if_true, evSl, evCs, tg_n, tg_t2, tg_t3, tg_t4, Tg.slots, Tg.slotss, wipeE, wr_noexc, Option.map_some, Option.bind_some, reduceIte, all_true]
  exact ⟨trivial, trivial⟩
theorem rising_lst {P : Prog} {n k : Nat} {α : Type} {e : α → D} {as : List α} {R : α → α → Prop} {S : Sto} (hf : P.fns[k]? = some risingF) (hR : ∀ a b, R a b → evCmp .lt (e a) (e b) = some true) (h : as.Pairwise R) : run P (n + 1) k [.lst (as.map e)] S = .ok (.bl true) S := by
  refine run_eq hf rfl (rising_go (ds := ((as.zip (as.drop 1)).map fun p => .tup [e p.1, e p.2])) ⟨_, rfl, ?_⟩ fun d hd => ?_)
  · show some (((as.map e).zip (cutD (as.map e) (some 1) none)).map fun p => D.tup [p.1, p.2]) = _
    rw [cut_from _ (by decide)]
    show some (((as.map e).zip ((as.map e).drop 1)).map fun p => D.tup [p.1, p.2]) = _
    rw [← List.map_drop, List.zip_map, List.map_map]
    rfl
  · obtain ⟨p, hp, rfl⟩ := List.mem_map.mp hd
    exact ⟨_, _, rfl, hR _ _ (zip_next h p hp)⟩
theorem rising_tup {P : Prog} {n k : Nat} {α : Type} {e : α → D} {as : List α} {R : α → α → Prop} {S : Sto} (hf : P.fns[k]? = some risingF) (hR : ∀ a b, R a b → evCmp .lt (e a) (e b) = some true) (h : as.Pairwise R) : run P (n + 1) k [.tup (as.map e)] S = .ok (.bl true) S := by
  refine run_eq hf rfl (rising_go (ds := ((as.zip (as.drop 1)).map fun p => .tup [e p.1, e p.2])) ⟨_, rfl, ?_⟩ fun d hd => ?_)
  · show some (((as.map e).zip (cutD (as.map e) (some 1) none)).map fun p => D.tup [p.1, p.2]) = _
    rw [cut_from _ (by decide)]
    show some (((as.map e).zip ((as.map e).drop 1)).map fun p => D.tup [p.1, p.2]) = _
    rw [← List.map_drop, List.zip_map, List.map_map]
    rfl
  · obtain ⟨p, hp, rfl⟩ := List.mem_map.mp hd
    exact ⟨_, _, rfl, hR _ _ (zip_next h p hp)⟩
def weekF (k0 k6 : Nat) : Fn := ⟨1, 2, false, [
  .iff (.orr [.no (.isi (.v 0) .tuple), .cmp .eq (.v 0) (.tup [])]) [.ret (.bl false)] [],
  .ret (.an [.bi .all [.comp (.call k0 [.v 1, .int 0, .int 6]) (.n 1) (.v 0) []], .call k6 [.v 0]])]⟩
theorem week_ok {P : Prog} {n k k0 k6 : Nat} {ns : List Int} {S : Sto} (hf : P.fns[k]? = some (weekF k0 k6)) (h0 : P.fns[k0]? = some wholeF) (h6 : P.fns[k6]? = some risingF) (ok : (Cn.days ns).Ok) : run P (n + 2) k [.tup (ns.map .int)] S = .ok (.bl true) S := by
  refine run_eq hf rfl ?_
  show Wo (evSs P.gl (run P (n + 1)) (weekF k0 k6).body [some (.tup (ns.map .int)), none] S) _ _
  unfold weekF
  dsimp only
  obtain ⟨ne, _, pw, inr⟩ := ok
  have e0 : evCmp .eq (.tup (ns.map .int)) (.tup []) = some false := by
    have nc : (D.tup (ns.map .int)).nice = true := nice_tup fun y hy => by
      obtain ⟨z, hz, rfl⟩ := List.mem_map.mp hy
      have := inr z hz
      exact nice_int (by omega)
    have dp : (D.tup (ns.map .int)).dep ≤ 64 := by
      have : D.deps (ns.map .int) ≤ 0 := deps_le fun x hx => by
        obtain ⟨y, _, rfl⟩ := List.mem_map.mp hx
        exact Nat.le_refl _
      show D.deps (ns.map .int) + 1 ≤ 64
      omega
    match ns, ne with
    | x :: l, _ => exact eq_tup0 nc dp
  rw [wo_cons]
  simp only [evS, evE, evEs, evAn, evOr, wo_outs, wo_nx, wo_rt, wr_bind, wr_ok, wo_ite, wr_ite, wr_lift, wr_tru, someEx, List.length_cons, List.length_nil, List.getElem?_cons_zero, List.getElem?_cons_succ, List.set_cons_zero, List.set_cons_succ, ix_lst, Nat.zero_add, Nat.reduceAdd, slB, isNon, D.isStr, if_true, evSl, evCs, tg_n, tg_t2, tg_t3, tg_t4, Tg.slots, Tg.slotss, wipeE, wr_noexc, Option.map_some, Option.bind_some, reduceIte, isi_tup, Bool.not_true, e0, wo_nil, Bool.false_eq_true]
  rw [wo_cons]
  simp only [evS, evE, evEs, evAn, evOr, wo_outs, wo_nx, wo_rt, wr_bind, wr_ok, wo_ite, wr_ite, wr_lift, wr_tru, someEx, List.length_cons, List.length_nil, List.getElem?_cons_zero, List.getElem?_cons_succ, List.set_cons_zero, List.set_cons_succ, ix_lst, Nat.zero_add, Nat.reduceAdd, slB, isNon, D.isStr, if_true, evSl, evCs, tg_n, tg_t2, tg_t3, tg_t4, Tg.slots, Tg.slotss, wipeE, wr_noexc, Option.map_some, Option.bind_some, reduceIte, items_tup]
  rw [compL_true (fun d hd => by
    obtain ⟨x, hx, rfl⟩ := List.mem_map.mp hd
    obtain ⟨x0, x1⟩ := inr x hx
    simp only [evS, evE, evEs, evAn, evOr, wo_outs, wo_nx, wo_rt, wr_bind, wr_ok, wo_ite, wr_ite, wr_lift, wr_tru, someEx, List.length_cons, List.length_nil, List.getElem?_cons_zero, List.getElem?_cons_succ, List.set_cons_zero, List.set_cons_succ, ix_lst, Nat.zero_add, Nat.reduceAdd, slB, isNon, D.isStr, if_true, evSl, evCs, tg_n, tg_t2, tg_t3, tg_t4, Tg.slots, Tg.slotss, wipeE, wr_noexc, Option.map_some, Option.bind_some, reduceIte, Res.ok_bind, whole_ok h0 x0 x1, Res.ok_noexc])]
  simp only [evS, evE, evEs, evAn, evOr, wo_outs, wo_nx, wo_rt, wr_bind, wr_ok, wo_ite, wr_ite, wr_lift, wr_tru, someEx, List.length_cons, List.length_nil, List.getElem?_cons_zero, List.getElem?_cons_succ, List.set_cons_zero, List.set_cons_succ, ix_lst, Nat.zero_add, Nat.reduceAdd, slB, isNon, D.isStr, if_true, evSl, evCs, tg_n, tg_t2, tg_t3, tg_t4, Tg.slots, Tg.slotss, wipeE, wr_noexc, Option.map_some, Option.bind_some, reduceIte, all_true, rising_tup h6 (e := D.int) (R := fun a b => a < b) (fun a b h => by rw [lt_int, decide_eq_true h]) pw]
  exact ⟨trivial, trivial⟩
end VE

set_option Elab.async false
set_option linter.all false
set_option maxRecDepth 100000
set_option maxHeartbeats 4000000
/-! ZL, part 3: conditions, rules, rates, books. -/
namespace VE
open PySem PySem.Spec PyProof.Rows L2

theorem ne_int (i j : Int) : evCmp .ne (.int i) (.int j) = some (!(i == j)) := rfl
theorem len_tup (xs : List D) : evBi .len [.tup xs] = some (.int xs.length) := rfl
def counts : List (Str × Int) := [("day", 1440), ("week", 10080)]
def bcondF (k0 k7 g : Nat) : Fn := ⟨1, 2, false, [
  .iff (.orr [.no (.isi (.v 0) .tuple), .cmp .eq (.v 0) (.tup []), .no (.isi (.ix (.v 0) (.int 0)) .str)]) [.ret (.bl false)] [],
  .asg 1 (.ix (.v 0) (.int 0)),
  .iff (.cmp .eq (.v 1) (.str "feast")) [.ret (.cmp .eq (.bi .len [.v 0]) (.int 1))] [],
  .iff (.cmp .eq (.v 1) (.str "days")) [.ret (.an [.cmp .eq (.bi .len [.v 0]) (.int 2), .call k7 [.ix (.v 0) (.int 1)]])] [],
  .iff (.din "COUNTS" counts (.v 1)) [.ret (.an [.cmp .eq (.bi .len [.v 0]) (.int 2), .call k0 [.ix (.v 0) (.int 1), .int 1, .dix "COUNTS" counts (.v 1)]])] [],
  .iff (.orr [.cmp .ne (.v 1) (.str "clock"), .cmp .ne (.bi .len [.v 0]) (.int 3)]) [.ret (.bl false)] [],
  .ret (.an [.call k0 [.ix (.v 0) (.int 1), .int 0, .bin .sub (.g g) (.int 1)], .call k0 [.ix (.v 0) (.int 2), .int 0, .bin .sub (.g g) (.int 1)], .cmp .ne (.ix (.v 0) (.int 1)) (.ix (.v 0) (.int 2))])]⟩
theorem din1 : evDin counts (.str (Str.ofString "clock")) = some (.bl false) := rfl
theorem din2 : evDin counts (.str (Str.ofString "day")) = some (.bl true) := rfl
theorem din3 : evDin counts (.str (Str.ofString "week")) = some (.bl true) := rfl
theorem dix2 : evDix counts (.str (Str.ofString "day")) = some (.int 1440) := rfl
theorem dix3 : evDix counts (.str (Str.ofString "week")) = some (.int 10080) := rfl
theorem w6 : (Str.ofString "feast" == Str.ofString "feast") = true := rfl
theorem w7 : (Str.ofString "days" == Str.ofString "feast") = false := rfl
theorem w8 : (Str.ofString "clock" == Str.ofString "feast") = false := rfl
theorem w9 : (Str.ofString "clock" == Str.ofString "days") = false := rfl
theorem bcond_ok {P : Prog} {n k k0 k6 k7 g : Nat} {c : Cn} {S : Sto} (hf : P.fns[k]? = some (bcondF k0 k7 g)) (h0 : P.fns[k0]? = some wholeF) (h6 : P.fns[k6]? = some risingF) (h7 : P.fns[k7]? = some (weekF k0 k6)) (hg : P.gl[g]? = some (.int 1440)) (ok : c.Ok) : run P (n + 3) k [c.d] S = .ok (.bl true) S := by
  refine run_eq hf rfl ?_
  show Wo (evSs P.gl (run P (n + 2)) (bcondF k0 k7 g).body [some c.d, none] S) _ _
  unfold bcondF
  dsimp only
  obtain ⟨nc, _, dp⟩ := nice_cn ok
  have e0 : evCmp .eq c.d (.tup []) = some false := by
    cases c <;> exact eq_tup0 nc (Nat.le_trans dp (by decide))
  cases c with
  | feast =>
    unfold Cn.d at *
    rw [wo_cons]
    simp only [evS, evE, evEs, evAn, evOr, wo_outs, wo_nx, wo_rt, wr_bind, wr_ok, wo_ite, wr_ite, wr_lift, wr_tru, someEx, List.length_cons, List.length_nil, List.getElem?_cons_zero, List.getElem?_cons_succ, List.set_cons_zero, List.set_cons_succ, ix_lst, Nat.zero_add, Nat.reduceAdd, slB, isNon, D.isStr, if_true, evSl, evCs, tg_n, tg_t2, tg_t3, tg_t4, Tg.slots, Tg.slotss, wipeE, wr_noexc, Option.map_some, Option.bind_some, reduceIte, isi_tup, Bool.not_true, e0, wo_nil, Bool.false_eq_true, ix_tup, at0, isi_str]
    rw [wo_cons]
    simp only [evS, evE, evEs, evAn, evOr, wo_outs, wo_nx, wo_rt, wr_bind, wr_ok, wo_ite, wr_ite, wr_lift, wr_tru, someEx, List.length_cons, List.length_nil, List.getElem?_cons_zero, List.getElem?_cons_succ, List.set_cons_zero, List.set_cons_succ, ix_lst, Nat.zero_add, Nat.reduceAdd, slB, isNon, D.isStr, if_true, evSl, evCs, tg_n, tg_t2, tg_t3, tg_t4, Tg.slots, Tg.slotss, wipeE, wr_noexc, Option.map_some, Option.bind_some, reduceIte, ix_tup, at0]
    rw [wo_cons]
    simp only [evS, evE, evEs, evAn, evOr, wo_outs, wo_nx, wo_rt, wr_bind, wr_ok, wo_ite, wr_ite, wr_lift, wr_tru, someEx, List.length_cons, List.length_nil, List.getElem?_cons_zero, List.getElem?_cons_succ, List.set_cons_zero, List.set_cons_succ, ix_lst, Nat.zero_add, Nat.reduceAdd, slB, isNon, D.isStr, if_true, evSl, evCs, tg_n, tg_t2, tg_t3, tg_t4, Tg.slots, Tg.slotss, wipeE, wr_noexc, Option.map_some, Option.bind_some, reduceIte, eq_str, w6, wo_nil]
    rw [wo_cons]
    simp only [evS, evE, evEs, evAn, evOr, wo_outs, wo_nx, wo_rt, wr_bind, wr_ok, wo_ite, wr_ite, wr_lift, wr_tru, someEx, List.length_cons, List.length_nil, List.getElem?_cons_zero, List.getElem?_cons_succ, List.set_cons_zero, List.set_cons_succ, ix_lst, Nat.zero_add, Nat.reduceAdd, slB, isNon, D.isStr, if_true, evSl, evCs, tg_n, tg_t2, tg_t3, tg_t4, Tg.slots, Tg.slotss, wipeE, wr_noexc, Option.map_some, Option.bind_some, reduceIte, len_tup, eq_int]
    exact ⟨rfl, trivial⟩
  | days ns =>
    unfold Cn.d at *
    rw [wo_cons]
    simp only [evS, evE, evEs, evAn, evOr, wo_outs, wo_nx, wo_rt, wr_bind, wr_ok, wo_ite, wr_ite, wr_lift, wr_tru, someEx, List.length_cons, List.length_nil, List.getElem?_cons_zero, List.getElem?_cons_succ, List.set_cons_zero, List.set_cons_succ, ix_lst, Nat.zero_add, Nat.reduceAdd, slB, isNon, D.isStr, if_true, evSl, evCs, tg_n, tg_t2, tg_t3, tg_t4, Tg.slots, Tg.slotss, wipeE, wr_noexc, Option.map_some, Option.bind_some, reduceIte, isi_tup, Bool.not_true, e0, wo_nil, Bool.false_eq_true, ix_tup, at0, isi_str]
    rw [wo_cons]
    simp only [evS, evE, evEs, evAn, evOr, wo_outs, wo_nx, wo_rt, wr_bind, wr_ok, wo_ite, wr_ite, wr_lift, wr_tru, someEx, List.length_cons, List.length_nil, List.getElem?_cons_zero, List.getElem?_cons_succ, List.set_cons_zero, List.set_cons_succ, ix_lst, Nat.zero_add, Nat.reduceAdd, slB, isNon, D.isStr, if_true, evSl, evCs, tg_n, tg_t2, tg_t3, tg_t4, Tg.slots, Tg.slotss, wipeE, wr_noexc, Option.map_some, Option.bind_some, reduceIte, ix_tup, at0]
    rw [wo_cons]
    simp only [evS, evE, evEs, evAn, evOr, wo_outs, wo_nx, wo_rt, wr_bind, wr_ok, wo_ite, wr_ite, wr_lift, wr_tru, someEx, List.length_cons, List.length_nil, List.getElem?_cons_zero, List.getElem?_cons_succ, List.set_cons_zero, List.set_cons_succ, ix_lst, Nat.zero_add, Nat.reduceAdd, slB, isNon, D.isStr, if_true, evSl, evCs, tg_n, tg_t2, tg_t3, tg_t4, Tg.slots, Tg.slotss, wipeE, wr_noexc, Option.map_some, Option.bind_some, reduceIte, eq_str, w7, wo_nil, Bool.false_eq_true]
    rw [wo_cons]
    simp only [evS, evE, evEs, evAn, evOr, wo_outs, wo_nx, wo_rt, wr_bind, wr_ok, wo_ite, wr_ite, wr_lift, wr_tru, someEx, List.length_cons, List.length_nil, List.getElem?_cons_zero, List.getElem?_cons_succ, List.set_cons_zero, List.set_cons_succ, ix_lst, Nat.zero_add, Nat.reduceAdd, slB, isNon, D.isStr, if_true, evSl, evCs, tg_n, tg_t2, tg_t3, tg_t4, Tg.slots, Tg.slotss, wipeE, wr_noexc, Option.map_some, Option.bind_some, reduceIte, eq_str, w4, wo_nil]
    rw [wo_cons]
    have e2 : ((([D.str "days", .tup (ns.map .int)] : List D).length : Int) == 2) = true := rfl
    simp only [List.length_cons, List.length_nil] at e2
    simp only [evS, evE, evEs, evAn, evOr, wo_outs, wo_nx, wo_rt, wr_bind, wr_ok, wo_ite, wr_ite, wr_lift, wr_tru, someEx, List.length_cons, List.length_nil, List.getElem?_cons_zero, List.getElem?_cons_succ, List.set_cons_zero, List.set_cons_succ, ix_lst, Nat.zero_add, Nat.reduceAdd, slB, isNon, D.isStr, if_true, evSl, evCs, tg_n, tg_t2, tg_t3, tg_t4, Tg.slots, Tg.slotss, wipeE, wr_noexc, Option.map_some, Option.bind_some, reduceIte, len_tup, eq_int, e2, ix_tup, at1, week_ok h7 h0 h6 ok]
    first
      | exact ⟨trivial, trivial⟩
      | exact ⟨rfl, trivial⟩
  | clock a b =>
    obtain ⟨a0, a1, b0, b1, ne⟩ := ok
    unfold Cn.d at *
    rw [wo_cons]
    simp only [evS, evE, evEs, evAn, evOr, wo_outs, wo_nx, wo_rt, wr_bind, wr_ok, wo_ite, wr_ite, wr_lift, wr_tru, someEx, List.length_cons, List.length_nil, List.getElem?_cons_zero, List.getElem?_cons_succ, List.set_cons_zero, List.set_cons_succ, ix_lst, Nat.zero_add, Nat.reduceAdd, slB, isNon, D.isStr, if_true, evSl, evCs, tg_n, tg_t2, tg_t3, tg_t4, Tg.slots, Tg.slotss, wipeE, wr_noexc, Option.map_some, Option.bind_some, reduceIte, isi_tup, Bool.not_true, e0, wo_nil, Bool.false_eq_true, ix_tup, at0, isi_str]
    rw [wo_cons]
    simp only [evS, evE, evEs, evAn, evOr, wo_outs, wo_nx, wo_rt, wr_bind, wr_ok, wo_ite, wr_ite, wr_lift, wr_tru, someEx, List.length_cons, List.length_nil, List.getElem?_cons_zero, List.getElem?_cons_succ, List.set_cons_zero, List.set_cons_succ, ix_lst, Nat.zero_add, Nat.reduceAdd, slB, isNon, D.isStr, if_true, evSl, evCs, tg_n, tg_t2, tg_t3, tg_t4, Tg.slots, Tg.slotss, wipeE, wr_noexc, Option.map_some, Option.bind_some, reduceIte, ix_tup, at0]
    rw [wo_cons]
    simp only [evS, evE, evEs, evAn, evOr, wo_outs, wo_nx, wo_rt, wr_bind, wr_ok, wo_ite, wr_ite, wr_lift, wr_tru, someEx, List.length_cons, List.length_nil, List.getElem?_cons_zero, List.getElem?_cons_succ, List.set_cons_zero, List.set_cons_succ, ix_lst, Nat.zero_add, Nat.reduceAdd, slB, isNon, D.isStr, if_true, evSl, evCs, tg_n, tg_t2, tg_t3, tg_t4, Tg.slots, Tg.slotss, wipeE, wr_noexc, Option.map_some, Option.bind_some, reduceIte, eq_str, w8, wo_nil, Bool.false_eq_true]
    rw [wo_cons]
    simp only [evS, evE, evEs, evAn, evOr, wo_outs, wo_nx, wo_rt, wr_bind, wr_ok, wo_ite, wr_ite, wr_lift, wr_tru, someEx, List.length_cons, List.length_nil, List.getElem?_cons_zero, List.getElem?_cons_succ, List.set_cons_zero, List.set_cons_succ, ix_lst, Nat.zero_add, Nat.reduceAdd, slB, isNon, D.isStr, if_true, evSl, evCs, tg_n, tg_t2, tg_t3, tg_t4, Tg.slots, Tg.slotss, wipeE, wr_noexc, Option.map_some, Option.bind_some, reduceIte, eq_str, w9, wo_nil, Bool.false_eq_true]
    rw [wo_cons]
    simp only [evS, evE, evEs, evAn, evOr, wo_outs, wo_nx, wo_rt, wr_bind, wr_ok, wo_ite, wr_ite, wr_lift, wr_tru, someEx, List.length_cons, List.length_nil, List.getElem?_cons_zero, List.getElem?_cons_succ, List.set_cons_zero, List.set_cons_succ, ix_lst, Nat.zero_add, Nat.reduceAdd, slB, isNon, D.isStr, if_true, evSl, evCs, tg_n, tg_t2, tg_t3, tg_t4, Tg.slots, Tg.slotss, wipeE, wr_noexc, Option.map_some, Option.bind_some, reduceIte, din1, wo_nil, Bool.false_eq_true]
    rw [wo_cons]
    have e3 : ((3 : Nat) : Int) = 3 := rfl
    simp only [evS, evE, evEs, evAn, evOr, wo_outs, wo_nx, wo_rt, wr_bind, wr_ok, wo_ite, wr_ite, wr_lift, wr_tru, someEx, List.length_cons, List.length_nil, List.getElem?_cons_zero, List.getElem?_cons_succ, List.set_cons_zero, List.set_cons_succ, ix_lst, Nat.zero_add, Nat.reduceAdd, slB, isNon, D.isStr, if_true, evSl, evCs, tg_n, tg_t2, tg_t3, tg_t4, Tg.slots, Tg.slotss, wipeE, wr_noexc, Option.map_some, Option.bind_some, reduceIte, ne_str, w5, Bool.not_true, len_tup, ne_int, e3, beq_self_eq_true, wo_nil, Bool.false_eq_true]
    rw [wo_cons]
    have z : (1440 : Int) - 1 = 1439 := rfl
    have e4 : (a == b) = false := by simpa using ne
    simp only [evS, evE, evEs, evAn, evOr, wo_outs, wo_nx, wo_rt, wr_bind, wr_ok, wo_ite, wr_ite, wr_lift, wr_tru, someEx, List.length_cons, List.length_nil, List.getElem?_cons_zero, List.getElem?_cons_succ, List.set_cons_zero, List.set_cons_succ, ix_lst, Nat.zero_add, Nat.reduceAdd, slB, isNon, D.isStr, if_true, evSl, evCs, tg_n, tg_t2, tg_t3, tg_t4, Tg.slots, Tg.slotss, wipeE, wr_noexc, Option.map_some, Option.bind_some, reduceIte, hg, sub_int, z, ix_tup, at1, at2, whole_ok h0 a0 (show a ≤ 1439 by omega), whole_ok h0 b0 (show b ≤ 1439 by omega), ne_int, e4, Bool.not_false]
    exact ⟨trivial, trivial⟩
  | num w m =>
    obtain ⟨e1, e2, _, _⟩ := num_ne ok
    have e5 : (w == Str.ofString "feast") = false := by
      rcases ok with ⟨e, _⟩ | ⟨e, _⟩ <;> subst e <;> rfl
    have e6 : evDin counts (.str w) = some (.bl true) := by
      rcases ok with ⟨e, _⟩ | ⟨e, _⟩ <;> subst e <;> rfl
    have e7 : ∃ b, evDix counts (.str w) = some (.int b) ∧ 1 ≤ m ∧ m ≤ b := by
      rcases ok with ⟨e, x, y⟩ | ⟨e, x, y⟩ <;> subst e
      · exact ⟨_, dix2, x, y⟩
      · exact ⟨_, dix3, x, y⟩
    obtain ⟨b, e7, m0, m1⟩ := e7
    unfold Cn.d at *
    rw [wo_cons]
    simp only [evS, evE, evEs, evAn, evOr, wo_outs, wo_nx, wo_rt, wr_bind, wr_ok, wo_ite, wr_ite, wr_lift, wr_tru, someEx, List.length_cons, List.length_nil, List.getElem?_cons_zero, List.getElem?_cons_succ, List.set_cons_zero, List.set_cons_succ, ix_lst, Nat.zero_add, Nat.reduceAdd, slB, isNon, D.isStr, if_true, evSl, evCs, tg_n, tg_t2, tg_t3, tg_t4, Tg.slots, Tg.slotss, wipeE, wr_noexc, Option.map_some, Option.bind_some, reduceIte, isi_tup, Bool.not_true, e0, wo_nil, Bool.false_eq_true, ix_tup, at0, isi_str]
    rw [wo_cons]
    simp only [evS, evE, evEs, evAn, evOr, wo_outs, wo_nx, wo_rt, wr_bind, wr_ok, wo_ite, wr_ite, wr_lift, wr_tru, someEx, List.length_cons, List.length_nil, List.getElem?_cons_zero, List.getElem?_cons_succ, List.set_cons_zero, List.set_cons_succ, ix_lst, Nat.zero_add, Nat.reduceAdd, slB, isNon, D.isStr, if_true, evSl, evCs, tg_n, tg_t2, tg_t3, tg_t4, Tg.slots, Tg.slotss, wipeE, wr_noexc, Option.map_some, Option.bind_some, reduceIte, ix_tup, at0]
    rw [wo_cons]
    simp only [evS, evE, evEs, evAn, evOr, wo_outs, wo_nx, wo_rt, wr_bind, wr_ok, wo_ite, wr_ite, wr_lift, wr_tru, someEx, List.length_cons, List.length_nil, List.getElem?_cons_zero, List.getElem?_cons_succ, List.set_cons_zero, List.set_cons_succ, ix_lst, Nat.zero_add, Nat.reduceAdd, slB, isNon, D.isStr, if_true, evSl, evCs, tg_n, tg_t2, tg_t3, tg_t4, Tg.slots, Tg.slotss, wipeE, wr_noexc, Option.map_some, Option.bind_some, reduceIte, eq_str, e5, wo_nil, Bool.false_eq_true]
    rw [wo_cons]
    simp only [evS, evE, evEs, evAn, evOr, wo_outs, wo_nx, wo_rt, wr_bind, wr_ok, wo_ite, wr_ite, wr_lift, wr_tru, someEx, List.length_cons, List.length_nil, List.getElem?_cons_zero, List.getElem?_cons_succ, List.set_cons_zero, List.set_cons_succ, ix_lst, Nat.zero_add, Nat.reduceAdd, slB, isNon, D.isStr, if_true, evSl, evCs, tg_n, tg_t2, tg_t3, tg_t4, Tg.slots, Tg.slotss, wipeE, wr_noexc, Option.map_some, Option.bind_some, reduceIte, eq_str, e2, wo_nil, Bool.false_eq_true]
    rw [wo_cons]
    simp only [evS, evE, evEs, evAn, evOr, wo_outs, wo_nx, wo_rt, wr_bind, wr_ok, wo_ite, wr_ite, wr_lift, wr_tru, someEx, List.length_cons, List.length_nil, List.getElem?_cons_zero, List.getElem?_cons_succ, List.set_cons_zero, List.set_cons_succ, ix_lst, Nat.zero_add, Nat.reduceAdd, slB, isNon, D.isStr, if_true, evSl, evCs, tg_n, tg_t2, tg_t3, tg_t4, Tg.slots, Tg.slotss, wipeE, wr_noexc, Option.map_some, Option.bind_some, reduceIte, e6, wo_nil]
    rw [wo_cons]
    have e8 : ((2 : Nat) : Int) = 2 := rfl
    simp only [evS, evE, evEs, evAn, evOr, wo_outs, wo_nx, wo_rt, wr_bind, wr_ok, wo_ite, wr_ite, wr_lift, wr_tru, someEx, List.length_cons, List.length_nil, List.getElem?_cons_zero, List.getElem?_cons_succ, List.set_cons_zero, List.set_cons_succ, ix_lst, Nat.zero_add, Nat.reduceAdd, slB, isNon, D.isStr, if_true, evSl, evCs, tg_n, tg_t2, tg_t3, tg_t4, Tg.slots, Tg.slotss, wipeE, wr_noexc, Option.map_some, Option.bind_some, reduceIte, len_tup, eq_int, e8, beq_self_eq_true, ix_tup, at1, e7, whole_ok h0 m0 m1]
    exact ⟨trivial, trivial⟩
theorem dd_nodup : ∀ (n : Nat) (xs : List Str), xs.length = n → xs.Nodup → VS.dd xs = xs
  | 0, xs, h, _ => by
    rw [List.eq_nil_of_length_eq_zero h]
    rfl
  | n + 1, xs, h, nd => by
    have ne : xs ≠ [] := fun z => by
      rw [z] at h
      cases h
    obtain ⟨ys, x, rfl⟩ : ∃ ys x, xs = ys ++ [x] := ⟨xs.dropLast, xs.getLast ne, (List.dropLast_concat_getLast ne).symm⟩
    have hn : ys.length = n := by simpa using h
    obtain ⟨h1, _, h3⟩ := List.nodup_append.mp nd
    rw [VS.dd_snoc, dd_nodup n ys hn h1, if_neg fun z => h3 x z x (List.mem_singleton.mpr rfl) rfl]
theorem lset_ev {ws : List Str} (nd : ws.Nodup) (l : ws.length ≤ 4000) : evLset (.lst (ws.map .str)) = some (.int ws.length) := by
  show (match strs? (ws.map D.str) with
    | some ys => if ys.length ≤ 4000 then some (D.int (VS.dd ys).length) else none
    | none => none) = _
  rw [strs_map]
  dsimp only
  rw [if_pos l, dd_nodup _ ws rfl nd]
def bruleF (k0 k5 k8 g : Nat) : Fn := ⟨1, 7, true, [
  .iff (.orr [.no (.isi (.v 0) .tuple), .cmp .ne (.bi .len [.v 0]) (.int 4)]) [.ret (.bl false)] [],
  .asgT (.t [.n 2, .n 3, .n 4, .n 5]) (.v 0),
  .iff (.orr [.no (.call k5 [.v 2]), .no (.call k0 [.v 3, .int 0, .g g]), .no (.call k5 [.v 4])]) [.ret (.bl false)] [],
  .iff (.orr [.no (.isi (.v 5) .tuple), .no (.bi .all [.comp (.call k8 [.v 6]) (.n 6) (.v 5) []])]) [.ret (.bl false)] [],
  .asg 1 (.comp (.ix (.v 6) (.int 0)) (.n 6) (.v 5) []),
  .ret (.cmp .eq (.lset (.v 1)) (.bi .len [.v 1]))]⟩
theorem cn_tup (c : Cn) : ∃ l, c.d = .tup (.str c.word :: l) := by cases c <;> exact ⟨_, rfl⟩
theorem brule_ok {P : Prog} {n k k0 k5 k6 k7 k8 g g1 g2 g3 : Nat} {r : Rl} {S : Sto} (hf : P.fns[k]? = some (bruleF k0 k5 k8 g)) (h0 : P.fns[k0]? = some wholeF) (h5 : P.fns[k5]? = some (nameF g1 g2)) (h6 : P.fns[k6]? = some risingF) (h7 : P.fns[k7]? = some (weekF k0 k6)) (h8 : P.fns[k8]? = some (bcondF k0 k7 g3))
    (hg : P.gl[g]? = some (.int 99)) (hg1 : P.gl[g1]? = some (.int 8)) (hg2 : P.gl[g2]? = some (.str letters)) (hg3 : P.gl[g3]? = some (.int 1440)) (ok : r.Ok) (nn : Name r.name) (ns : Name r.sort) : run P (n + 4) k [r.d] S = .ok (.bl true) S := by
  refine run_eq hf rfl ?_
  show Wo (evSs P.gl (run P (n + 3)) (bruleF k0 k5 k8 g).body [some r.d, none, none, none, none, none, none] S) _ _
  unfold bruleF
  dsimp only
  obtain ⟨r0, r1, co, wd, lc⟩ := ok
  unfold Rl.d
  rw [wo_cons]
  have e4 : ((4 : Nat) : Int) = 4 := rfl
  simp only [evS, evE, evEs, evAn, evOr, wo_outs, wo_nx, wo_rt, wr_bind, wr_ok, wo_ite, wr_ite, wr_lift, wr_tru, someEx, List.length_cons, List.length_nil, List.getElem?_cons_zero, List.getElem?_cons_succ, List.set_cons_zero, List.set_cons_succ, ix_lst, Nat.zero_add, Nat.reduceAdd, slB, isNon, D.isStr, if_true, evSl, evCs, tg_n, tg_t2, tg_t3, tg_t4, Tg.slots, Tg.slotss, wipeE, wr_noexc, Option.map_some, Option.bind_some, reduceIte, isi_tup, Bool.not_true, len_tup, ne_int, e4, beq_self_eq_true, wo_nil, Bool.false_eq_true]
  rw [wo_cons]
  simp only [evS, evE, evEs, evAn, evOr, wo_outs, wo_nx, wo_rt, wr_bind, wr_ok, wo_ite, wr_ite, wr_lift, wr_tru, someEx, List.length_cons, List.length_nil, List.getElem?_cons_zero, List.getElem?_cons_succ, List.set_cons_zero, List.set_cons_succ, ix_lst, Nat.zero_add, Nat.reduceAdd, slB, isNon, D.isStr, if_true, evSl, evCs, tg_n, tg_t2, tg_t3, tg_t4, Tg.slots, Tg.slotss, wipeE, wr_noexc, Option.map_some, Option.bind_some, reduceIte]
  rw [wo_cons]
  simp only [evS, evE, evEs, evAn, evOr, wo_outs, wo_nx, wo_rt, wr_bind, wr_ok, wo_ite, wr_ite, wr_lift, wr_tru, someEx, List.length_cons, List.length_nil, List.getElem?_cons_zero, List.getElem?_cons_succ, List.set_cons_zero, List.set_cons_succ, ix_lst, Nat.zero_add, Nat.reduceAdd, slB, isNon, D.isStr, if_true, evSl, evCs, tg_n, tg_t2, tg_t3, tg_t4, Tg.slots, Tg.slotss, wipeE, wr_noexc, Option.map_some, Option.bind_some, reduceIte, name_ok h5 hg1 hg2 nn, name_ok h5 hg1 hg2 ns, hg, whole_ok h0 r0 r1, Bool.not_true, wo_nil, Bool.false_eq_true]
  rw [wo_cons]
  simp only [evS, evE, evEs, evAn, evOr, wo_outs, wo_nx, wo_rt, wr_bind, wr_ok, wo_ite, wr_ite, wr_lift, wr_tru, someEx, List.length_cons, List.length_nil, List.getElem?_cons_zero, List.getElem?_cons_succ, List.set_cons_zero, List.set_cons_succ, ix_lst, Nat.zero_add, Nat.reduceAdd, slB, isNon, D.isStr, if_true, evSl, evCs, tg_n, tg_t2, tg_t3, tg_t4, Tg.slots, Tg.slotss, wipeE, wr_noexc, Option.map_some, Option.bind_some, reduceIte, isi_tup, Bool.not_true, items_tup]
  rw [compL_true (fun d hd => by
    obtain ⟨c, hc, rfl⟩ := List.mem_map.mp hd
    simp only [evS, evE, evEs, evAn, evOr, wo_outs, wo_nx, wo_rt, wr_bind, wr_ok, wo_ite, wr_ite, wr_lift, wr_tru, someEx, List.length_cons, List.length_nil, List.getElem?_cons_zero, List.getElem?_cons_succ, List.set_cons_zero, List.set_cons_succ, ix_lst, Nat.zero_add, Nat.reduceAdd, slB, isNon, D.isStr, if_true, evSl, evCs, tg_n, tg_t2, tg_t3, tg_t4, Tg.slots, Tg.slotss, wipeE, wr_noexc, Option.map_some, Option.bind_some, reduceIte, Res.ok_bind, bcond_ok h8 h0 h6 h7 hg3 (co c hc), Res.ok_noexc])]
  simp only [evS, evE, evEs, evAn, evOr, wo_outs, wo_nx, wo_rt, wr_bind, wr_ok, wo_ite, wr_ite, wr_lift, wr_tru, someEx, List.length_cons, List.length_nil, List.getElem?_cons_zero, List.getElem?_cons_succ, List.set_cons_zero, List.set_cons_succ, ix_lst, Nat.zero_add, Nat.reduceAdd, slB, isNon, D.isStr, if_true, evSl, evCs, tg_n, tg_t2, tg_t3, tg_t4, Tg.slots, Tg.slotss, wipeE, wr_noexc, Option.map_some, Option.bind_some, reduceIte, all_true, Bool.not_true, wo_nil, Bool.false_eq_true]
  rw [wo_cons]
  simp only [evS, evE, evEs, evAn, evOr, wo_outs, wo_nx, wo_rt, wr_bind, wr_ok, wo_ite, wr_ite, wr_lift, wr_tru, someEx, List.length_cons, List.length_nil, List.getElem?_cons_zero, List.getElem?_cons_succ, List.set_cons_zero, List.set_cons_succ, ix_lst, Nat.zero_add, Nat.reduceAdd, slB, isNon, D.isStr, if_true, evSl, evCs, tg_n, tg_t2, tg_t3, tg_t4, Tg.slots, Tg.slotss, wipeE, wr_noexc, Option.map_some, Option.bind_some, reduceIte, items_tup]
  rw [compL_map (g := fun c => .str c.word) (fun c hc => by
    obtain ⟨l, e⟩ := cn_tup c
    simp only [evS, evE, evEs, evAn, evOr, wo_outs, wo_nx, wo_rt, wr_bind, wr_ok, wo_ite, wr_ite, wr_lift, wr_tru, someEx, List.length_cons, List.length_nil, List.getElem?_cons_zero, List.getElem?_cons_succ, List.set_cons_zero, List.set_cons_succ, ix_lst, Nat.zero_add, Nat.reduceAdd, slB, isNon, D.isStr, if_true, evSl, evCs, tg_n, tg_t2, tg_t3, tg_t4, Tg.slots, Tg.slotss, wipeE, wr_noexc, Option.map_some, Option.bind_some, reduceIte, e, ix_tup, at0, Res.ok_bind, lift_some, Res.ok_noexc])]
  have e5 : (r.cs.map fun c => D.str c.word) = (r.cs.map Cn.word).map .str := by
    rw [List.map_map]
    rfl
  rw [e5]
  simp only [evS, evE, evEs, evAn, evOr, wo_outs, wo_nx, wo_rt, wr_bind, wr_ok, wo_ite, wr_ite, wr_lift, wr_tru, someEx, List.length_cons, List.length_nil, List.getElem?_cons_zero, List.getElem?_cons_succ, List.set_cons_zero, List.set_cons_succ, ix_lst, Nat.zero_add, Nat.reduceAdd, slB, isNon, D.isStr, if_true, evSl, evCs, tg_n, tg_t2, tg_t3, tg_t4, Tg.slots, Tg.slotss, wipeE, wr_noexc, Option.map_some, Option.bind_some, reduceIte]
  rw [wo_cons]
  simp only [evS, evE, evEs, evAn, evOr, wo_outs, wo_nx, wo_rt, wr_bind, wr_ok, wo_ite, wr_ite, wr_lift, wr_tru, someEx, List.length_cons, List.length_nil, List.getElem?_cons_zero, List.getElem?_cons_succ, List.set_cons_zero, List.set_cons_succ, ix_lst, Nat.zero_add, Nat.reduceAdd, slB, isNon, D.isStr, if_true, evSl, evCs, tg_n, tg_t2, tg_t3, tg_t4, Tg.slots, Tg.slotss, wipeE, wr_noexc, Option.map_some, Option.bind_some, reduceIte, lset_ev wd (by rw [List.length_map]; omega), len_lst, List.length_map, eq_int, beq_self_eq_true]
  exact ⟨trivial, trivial⟩
def brateF (k0 k5 g : Nat) : Fn := ⟨1, 1, false, [
  .iff (.orr [.no (.isi (.v 0) .tuple), .cmp .ne (.bi .len [.v 0]) (.int 2)]) [.ret (.bl false)] [],
  .ret (.an [.call k5 [.ix (.v 0) (.int 0)], .call k0 [.ix (.v 0) (.int 1), .int 0, .g g]])]⟩
theorem brate_ok {P : Prog} {n k k0 k5 g g1 g2 : Nat} {p : Str × Int} {S : Sto} (hf : P.fns[k]? = some (brateF k0 k5 g)) (h0 : P.fns[k0]? = some wholeF) (h5 : P.fns[k5]? = some (nameF g1 g2)) (hg : P.gl[g]? = some (.int 1000000)) (hg1 : P.gl[g1]? = some (.int 8)) (hg2 : P.gl[g2]? = some (.str letters))
    (ok : Name p.1 ∧ 0 ≤ p.2 ∧ p.2 ≤ 1000000) : run P (n + 2) k [rdD p] S = .ok (.bl true) S := by
  refine run_eq hf rfl ?_
  show Wo (evSs P.gl (run P (n + 1)) (brateF k0 k5 g).body [some (rdD p)] S) _ _
  unfold brateF rdD
  dsimp only
  rw [wo_cons]
  have e2 : ((2 : Nat) : Int) = 2 := rfl
  simp only [evS, evE, evEs, evAn, evOr, wo_outs, wo_nx, wo_rt, wr_bind, wr_ok, wo_ite, wr_ite, wr_lift, wr_tru, someEx, List.length_cons, List.length_nil, List.getElem?_cons_zero, List.getElem?_cons_succ, List.set_cons_zero, List.set_cons_succ, ix_lst, Nat.zero_add, Nat.reduceAdd, slB, isNon, D.isStr, if_true, evSl, evCs, tg_n, tg_t2, tg_t3, tg_t4, Tg.slots, Tg.slotss, wipeE, wr_noexc, Option.map_some, Option.bind_some, reduceIte, isi_tup, Bool.not_true, len_tup, ne_int, e2, beq_self_eq_true, wo_nil, Bool.false_eq_true]
  rw [wo_cons]
  simp only [evS, evE, evEs, evAn, evOr, wo_outs, wo_nx, wo_rt, wr_bind, wr_ok, wo_ite, wr_ite, wr_lift, wr_tru, someEx, List.length_cons, List.length_nil, List.getElem?_cons_zero, List.getElem?_cons_succ, List.set_cons_zero, List.set_cons_succ, ix_lst, Nat.zero_add, Nat.reduceAdd, slB, isNon, D.isStr, if_true, evSl, evCs, tg_n, tg_t2, tg_t3, tg_t4, Tg.slots, Tg.slotss, wipeE, wr_noexc, Option.map_some, Option.bind_some, reduceIte, ix_tup, at0, at1, name_ok h5 hg1 hg2 ok.1, hg, whole_ok h0 ok.2.1 ok.2.2]
  exact ⟨trivial, trivial⟩
def bratesF (k6 k10 : Nat) : Fn := ⟨1, 2, true, [
  .iff (.orr [.no (.isi (.v 0) .tuple), .no (.bi .all [.comp (.call k10 [.v 1]) (.n 1) (.v 0) []])]) [.ret (.bl false)] [],
  .ret (.call k6 [.comp (.ix (.v 1) (.int 0)) (.n 1) (.v 0) []])]⟩
def brulesF (k9 g : Nat) : Fn := ⟨1, 3, true, [
  .iff (.orr [.no (.isi (.v 0) .tuple), .cmp .gt (.bi .len [.v 0]) (.g g), .no (.bi .all [.comp (.call k9 [.v 2]) (.n 2) (.v 0) []])]) [.ret (.bl false)] [],
  .asg 1 (.comp (.ix (.v 2) (.int 0)) (.n 2) (.v 0) []),
  .ret (.cmp .eq (.lset (.v 1)) (.bi .len [.v 1]))]⟩
def bbookF (k5 k11 k12 : Nat) : Fn := ⟨1, 8, true, [
  .iff (.orr [.no (.isi (.v 0) .tuple), .cmp .ne (.bi .len [.v 0]) (.int 3)]) [.ret (.bl false)] [],
  .asgT (.t [.n 2, .n 3, .n 4]) (.v 0),
  .iff (.orr [.no (.call k5 [.v 2]), .no (.call k11 [.v 3]), .no (.call k12 [.v 4])]) [.ret (.bl false)] [],
  .asg 1 (.comp (.ix (.v 5) (.int 0)) (.n 5) (.v 3) []),
  .ret (.bi .all [.comp (.cmp .isin (.v 6) (.v 1)) (.n 6) (.bin .add (.lst [.v 2]) (.comp (.ix (.v 7) (.int 2)) (.n 7) (.v 4) [])) []])]⟩
theorem lt_str (x y : Str) : evCmp .lt (.str x) (.str y) = some (decide (x.cps.toList < y.cps.toList)) := rfl
theorem rd_name (p : Str × Int) : evIx (rdD p) (.int 0) = some (.str p.1) := at0 _ _
theorem rl_name (r : Rl) : evIx r.d (.int 0) = some (.str r.name) := at0 _ _
theorem rl_sort (r : Rl) : evIx r.d (.int 2) = some (.str r.sort) := at2 _ _ _ _
theorem isin_strs {w : Str} {ws : List Str} (h : w ∈ ws) : evCmp .isin (.str w) (.lst (ws.map .str)) = some true := by
  have : (ws.any fun z => z == w) = true := List.any_eq_true.mpr ⟨w, h, beq_self_eq_true w⟩
  rw [evIn_isin, in_strs, this]
theorem bbook_ok {P : Prog} {n k k0 k5 k6 k7 k8 k9 k10 k11 k12 g g1 g2 g3 g5 g6 : Nat} {b : Bk} {S : Sto} (hf : P.fns[k]? = some (bbookF k5 k11 k12)) (h0 : P.fns[k0]? = some wholeF) (h5 : P.fns[k5]? = some (nameF g1 g2)) (h6 : P.fns[k6]? = some risingF) (h7 : P.fns[k7]? = some (weekF k0 k6)) (h8 : P.fns[k8]? = some (bcondF k0 k7 g3)) (h9 : P.fns[k9]? = some (bruleF k0 k5 k8 g))
    (h10 : P.fns[k10]? = some (brateF k0 k5 g5)) (h11 : P.fns[k11]? = some (bratesF k6 k10)) (h12 : P.fns[k12]? = some (brulesF k9 g6)) (hg : P.gl[g]? = some (.int 99)) (hg1 : P.gl[g1]? = some (.int 8)) (hg2 : P.gl[g2]? = some (.str letters)) (hg3 : P.gl[g3]? = some (.int 1440)) (hg5 : P.gl[g5]? = some (.int 1000000)) (hg6 : P.gl[g6]? = some (.int 8))
    (ok : BkOk b) (rise : b.Rise) : run P (n + 6) k [b.d] S = .ok (.bl true) S := by
  have bn : Name b.base := by
    obtain ⟨p, hp, e⟩ := List.mem_map.mp ok.base
    rw [← e]
    exact (ok.names p hp).1
  have sn : ∀ r ∈ b.rules, Name r.sort := fun r hr => by
    obtain ⟨p, hp, e⟩ := List.mem_map.mp (ok.rok r hr).2.2
    rw [← e]
    exact (ok.names p hp).1
  have rates : run P (n + 5) k11 [.tup (b.rates.map rdD)] S = .ok (.bl true) S := by
    refine run_eq h11 rfl ?_
    show Wo (evSs P.gl (run P (n + 4)) (bratesF k6 k10).body [some (.tup (b.rates.map rdD)), none] S) _ _
    unfold bratesF
    dsimp only
    rw [wo_cons]
    simp only [evS, evE, evEs, evAn, evOr, wo_outs, wo_nx, wo_rt, wr_bind, wr_ok, wo_ite, wr_ite, wr_lift, wr_tru, someEx, List.length_cons, List.length_nil, List.getElem?_cons_zero, List.getElem?_cons_succ, List.set_cons_zero, List.set_cons_succ, ix_lst, Nat.zero_add, Nat.reduceAdd, slB, isNon, D.isStr, if_true, evSl, evCs, tg_n, tg_t2, tg_t3, tg_t4, Tg.slots, Tg.slotss, wipeE, wr_noexc, Option.map_some, Option.bind_some, reduceIte, isi_tup, Bool.not_true, items_tup]
    rw [compL_true (fun d hd => by
      obtain ⟨p, hp, rfl⟩ := List.mem_map.mp hd
      simp only [evS, evE, evEs, evAn, evOr, wo_outs, wo_nx, wo_rt, wr_bind, wr_ok, wo_ite, wr_ite, wr_lift, wr_tru, someEx, List.length_cons, List.length_nil, List.getElem?_cons_zero, List.getElem?_cons_succ, List.set_cons_zero, List.set_cons_succ, ix_lst, Nat.zero_add, Nat.reduceAdd, slB, isNon, D.isStr, if_true, evSl, evCs, tg_n, tg_t2, tg_t3, tg_t4, Tg.slots, Tg.slotss, wipeE, wr_noexc, Option.map_some, Option.bind_some, reduceIte, Res.ok_bind, brate_ok h10 h0 h5 hg5 hg1 hg2 (ok.names p hp), Res.ok_noexc])]
    simp only [evS, evE, evEs, evAn, evOr, wo_outs, wo_nx, wo_rt, wr_bind, wr_ok, wo_ite, wr_ite, wr_lift, wr_tru, someEx, List.length_cons, List.length_nil, List.getElem?_cons_zero, List.getElem?_cons_succ, List.set_cons_zero, List.set_cons_succ, ix_lst, Nat.zero_add, Nat.reduceAdd, slB, isNon, D.isStr, if_true, evSl, evCs, tg_n, tg_t2, tg_t3, tg_t4, Tg.slots, Tg.slotss, wipeE, wr_noexc, Option.map_some, Option.bind_some, reduceIte, all_true, Bool.not_true, wo_nil, Bool.false_eq_true]
    rw [wo_cons]
    simp only [evS, evE, evEs, evAn, evOr, wo_outs, wo_nx, wo_rt, wr_bind, wr_ok, wo_ite, wr_ite, wr_lift, wr_tru, someEx, List.length_cons, List.length_nil, List.getElem?_cons_zero, List.getElem?_cons_succ, List.set_cons_zero, List.set_cons_succ, ix_lst, Nat.zero_add, Nat.reduceAdd, slB, isNon, D.isStr, if_true, evSl, evCs, tg_n, tg_t2, tg_t3, tg_t4, Tg.slots, Tg.slotss, wipeE, wr_noexc, Option.map_some, Option.bind_some, reduceIte, items_tup]
    rw [compL_map (g := fun p => .str p.1) (fun p hp => by
      unfold rdD; simp only [evS, evE, evEs, evAn, evOr, wo_outs, wo_nx, wo_rt, wr_bind, wr_ok, wo_ite, wr_ite, wr_lift, wr_tru, someEx, List.length_cons, List.length_nil, List.getElem?_cons_zero, List.getElem?_cons_succ, List.set_cons_zero, List.set_cons_succ, ix_lst, Nat.zero_add, Nat.reduceAdd, slB, isNon, D.isStr, if_true, evSl, evCs, tg_n, tg_t2, tg_t3, tg_t4, Tg.slots, Tg.slotss, wipeE, wr_noexc, Option.map_some, Option.bind_some, reduceIte, Res.ok_bind, ix_tup, at0, lift_some, Res.ok_noexc])]
    simp only [evS, evE, evEs, evAn, evOr, wo_outs, wo_nx, wo_rt, wr_bind, wr_ok, wo_ite, wr_ite, wr_lift, wr_tru, someEx, List.length_cons, List.length_nil, List.getElem?_cons_zero, List.getElem?_cons_succ, List.set_cons_zero, List.set_cons_succ, ix_lst, Nat.zero_add, Nat.reduceAdd, slB, isNon, D.isStr, if_true, evSl, evCs, tg_n, tg_t2, tg_t3, tg_t4, Tg.slots, Tg.slotss, wipeE, wr_noexc, Option.map_some, Option.bind_some, reduceIte, rising_lst h6 (e := fun p : Str × Int => D.str p.1) (R := fun p q => p.1.cps.toList < q.1.cps.toList) (fun p q h => by rw [lt_str, decide_eq_true h]) rise]
    exact ⟨trivial, trivial⟩
  have rules : run P (n + 5) k12 [.tup (b.rules.map Rl.d)] S = .ok (.bl true) S := by
    refine run_eq h12 rfl ?_
    show Wo (evSs P.gl (run P (n + 4)) (brulesF k9 g6).body [some (.tup (b.rules.map Rl.d)), none, none] S) _ _
    unfold brulesF
    dsimp only
    rw [wo_cons]
    have l8 : ¬ (8 : Int) < ((b.rules.map Rl.d).length : Nat) := by
      rw [List.length_map]
      have := ok.rules
      omega
    simp only [evS, evE, evEs, evAn, evOr, wo_outs, wo_nx, wo_rt, wr_bind, wr_ok, wo_ite, wr_ite, wr_lift, wr_tru, someEx, List.length_cons, List.length_nil, List.getElem?_cons_zero, List.getElem?_cons_succ, List.set_cons_zero, List.set_cons_succ, ix_lst, Nat.zero_add, Nat.reduceAdd, slB, isNon, D.isStr, if_true, evSl, evCs, tg_n, tg_t2, tg_t3, tg_t4, Tg.slots, Tg.slotss, wipeE, wr_noexc, Option.map_some, Option.bind_some, reduceIte, isi_tup, Bool.not_true, items_tup, len_tup, hg6, gt_int, decide_eq_false l8, Bool.false_eq_true]
    rw [compL_true (fun d hd => by
      obtain ⟨r, hr, rfl⟩ := List.mem_map.mp hd
      simp only [evS, evE, evEs, evAn, evOr, wo_outs, wo_nx, wo_rt, wr_bind, wr_ok, wo_ite, wr_ite, wr_lift, wr_tru, someEx, List.length_cons, List.length_nil, List.getElem?_cons_zero, List.getElem?_cons_succ, List.set_cons_zero, List.set_cons_succ, ix_lst, Nat.zero_add, Nat.reduceAdd, slB, isNon, D.isStr, if_true, evSl, evCs, tg_n, tg_t2, tg_t3, tg_t4, Tg.slots, Tg.slotss, wipeE, wr_noexc, Option.map_some, Option.bind_some, reduceIte, Res.ok_bind, brule_ok h9 h0 h5 h6 h7 h8 hg hg1 hg2 hg3 (ok.rok r hr).1 (ok.rok r hr).2.1 (sn r hr), Res.ok_noexc])]
    simp only [evS, evE, evEs, evAn, evOr, wo_outs, wo_nx, wo_rt, wr_bind, wr_ok, wo_ite, wr_ite, wr_lift, wr_tru, someEx, List.length_cons, List.length_nil, List.getElem?_cons_zero, List.getElem?_cons_succ, List.set_cons_zero, List.set_cons_succ, ix_lst, Nat.zero_add, Nat.reduceAdd, slB, isNon, D.isStr, if_true, evSl, evCs, tg_n, tg_t2, tg_t3, tg_t4, Tg.slots, Tg.slotss, wipeE, wr_noexc, Option.map_some, Option.bind_some, reduceIte, all_true, Bool.not_true, wo_nil, Bool.false_eq_true]
    rw [wo_cons]
    simp only [evS, evE, evEs, evAn, evOr, wo_outs, wo_nx, wo_rt, wr_bind, wr_ok, wo_ite, wr_ite, wr_lift, wr_tru, someEx, List.length_cons, List.length_nil, List.getElem?_cons_zero, List.getElem?_cons_succ, List.set_cons_zero, List.set_cons_succ, ix_lst, Nat.zero_add, Nat.reduceAdd, slB, isNon, D.isStr, if_true, evSl, evCs, tg_n, tg_t2, tg_t3, tg_t4, Tg.slots, Tg.slotss, wipeE, wr_noexc, Option.map_some, Option.bind_some, reduceIte, items_tup]
    rw [compL_map (g := fun r => .str r.name) (fun p hp => by
      unfold Rl.d; simp only [evS, evE, evEs, evAn, evOr, wo_outs, wo_nx, wo_rt, wr_bind, wr_ok, wo_ite, wr_ite, wr_lift, wr_tru, someEx, List.length_cons, List.length_nil, List.getElem?_cons_zero, List.getElem?_cons_succ, List.set_cons_zero, List.set_cons_succ, ix_lst, Nat.zero_add, Nat.reduceAdd, slB, isNon, D.isStr, if_true, evSl, evCs, tg_n, tg_t2, tg_t3, tg_t4, Tg.slots, Tg.slotss, wipeE, wr_noexc, Option.map_some, Option.bind_some, reduceIte, Res.ok_bind, ix_tup, at0, lift_some, Res.ok_noexc])]
    have e5 : (b.rules.map fun r => D.str r.name) = (b.rules.map Rl.name).map .str := by
      rw [List.map_map]
      rfl
    rw [e5]
    simp only [evS, evE, evEs, evAn, evOr, wo_outs, wo_nx, wo_rt, wr_bind, wr_ok, wo_ite, wr_ite, wr_lift, wr_tru, someEx, List.length_cons, List.length_nil, List.getElem?_cons_zero, List.getElem?_cons_succ, List.set_cons_zero, List.set_cons_succ, ix_lst, Nat.zero_add, Nat.reduceAdd, slB, isNon, D.isStr, if_true, evSl, evCs, tg_n, tg_t2, tg_t3, tg_t4, Tg.slots, Tg.slotss, wipeE, wr_noexc, Option.map_some, Option.bind_some, reduceIte]
    rw [wo_cons]
    simp only [evS, evE, evEs, evAn, evOr, wo_outs, wo_nx, wo_rt, wr_bind, wr_ok, wo_ite, wr_ite, wr_lift, wr_tru, someEx, List.length_cons, List.length_nil, List.getElem?_cons_zero, List.getElem?_cons_succ, List.set_cons_zero, List.set_cons_succ, ix_lst, Nat.zero_add, Nat.reduceAdd, slB, isNon, D.isStr, if_true, evSl, evCs, tg_n, tg_t2, tg_t3, tg_t4, Tg.slots, Tg.slotss, wipeE, wr_noexc, Option.map_some, Option.bind_some, reduceIte, lset_ev ok.rnodup (by rw [List.length_map]; have := ok.rules; omega), len_lst, List.length_map, eq_int, beq_self_eq_true]
    exact ⟨trivial, trivial⟩
  refine run_eq hf rfl ?_
  show Wo (evSs P.gl (run P (n + 5)) (bbookF k5 k11 k12).body [some b.d, none, none, none, none, none, none, none] S) _ _
  unfold bbookF
  dsimp only
  unfold Bk.d
  rw [wo_cons]
  have e3 : ((3 : Nat) : Int) = 3 := rfl
  simp only [evS, evE, evEs, evAn, evOr, wo_outs, wo_nx, wo_rt, wr_bind, wr_ok, wo_ite, wr_ite, wr_lift, wr_tru, someEx, List.length_cons, List.length_nil, List.getElem?_cons_zero, List.getElem?_cons_succ, List.set_cons_zero, List.set_cons_succ, ix_lst, Nat.zero_add, Nat.reduceAdd, slB, isNon, D.isStr, if_true, evSl, evCs, tg_n, tg_t2, tg_t3, tg_t4, Tg.slots, Tg.slotss, wipeE, wr_noexc, Option.map_some, Option.bind_some, reduceIte, isi_tup, Bool.not_true, len_tup, ne_int, e3, beq_self_eq_true, wo_nil, Bool.false_eq_true]
  rw [wo_cons]
  simp only [evS, evE, evEs, evAn, evOr, wo_outs, wo_nx, wo_rt, wr_bind, wr_ok, wo_ite, wr_ite, wr_lift, wr_tru, someEx, List.length_cons, List.length_nil, List.getElem?_cons_zero, List.getElem?_cons_succ, List.set_cons_zero, List.set_cons_succ, ix_lst, Nat.zero_add, Nat.reduceAdd, slB, isNon, D.isStr, if_true, evSl, evCs, tg_n, tg_t2, tg_t3, tg_t4, Tg.slots, Tg.slotss, wipeE, wr_noexc, Option.map_some, Option.bind_some, reduceIte]
  rw [wo_cons]
  simp only [evS, evE, evEs, evAn, evOr, wo_outs, wo_nx, wo_rt, wr_bind, wr_ok, wo_ite, wr_ite, wr_lift, wr_tru, someEx, List.length_cons, List.length_nil, List.getElem?_cons_zero, List.getElem?_cons_succ, List.set_cons_zero, List.set_cons_succ, ix_lst, Nat.zero_add, Nat.reduceAdd, slB, isNon, D.isStr, if_true, evSl, evCs, tg_n, tg_t2, tg_t3, tg_t4, Tg.slots, Tg.slotss, wipeE, wr_noexc, Option.map_some, Option.bind_some, reduceIte, name_ok h5 hg1 hg2 bn, rates, rules, Bool.not_true, wo_nil, Bool.false_eq_true]
  rw [wo_cons]
  simp only [evS, evE, evEs, evAn, evOr, wo_outs, wo_nx, wo_rt, wr_bind, wr_ok, wo_ite, wr_ite, wr_lift, wr_tru, someEx, List.length_cons, List.length_nil, List.getElem?_cons_zero, List.getElem?_cons_succ, List.set_cons_zero, List.set_cons_succ, ix_lst, Nat.zero_add, Nat.reduceAdd, slB, isNon, D.isStr, if_true, evSl, evCs, tg_n, tg_t2, tg_t3, tg_t4, Tg.slots, Tg.slotss, wipeE, wr_noexc, Option.map_some, Option.bind_some, reduceIte, items_tup]
  rw [compL_map (g := fun p => .str p.1) (fun p hp => by
    unfold rdD; simp only [evS, evE, evEs, evAn, evOr, wo_outs, wo_nx, wo_rt, wr_bind, wr_ok, wo_ite, wr_ite, wr_lift, wr_tru, someEx, List.length_cons, List.length_nil, List.getElem?_cons_zero, List.getElem?_cons_succ, List.set_cons_zero, List.set_cons_succ, ix_lst, Nat.zero_add, Nat.reduceAdd, slB, isNon, D.isStr, if_true, evSl, evCs, tg_n, tg_t2, tg_t3, tg_t4, Tg.slots, Tg.slotss, wipeE, wr_noexc, Option.map_some, Option.bind_some, reduceIte, Res.ok_bind, ix_tup, at0, lift_some, Res.ok_noexc])]
  have e5 : (b.rates.map fun p => D.str p.1) = (b.rates.map (·.1)).map .str := by
    rw [List.map_map]
    rfl
  rw [e5]
  simp only [evS, evE, evEs, evAn, evOr, wo_outs, wo_nx, wo_rt, wr_bind, wr_ok, wo_ite, wr_ite, wr_lift, wr_tru, someEx, List.length_cons, List.length_nil, List.getElem?_cons_zero, List.getElem?_cons_succ, List.set_cons_zero, List.set_cons_succ, ix_lst, Nat.zero_add, Nat.reduceAdd, slB, isNon, D.isStr, if_true, evSl, evCs, tg_n, tg_t2, tg_t3, tg_t4, Tg.slots, Tg.slotss, wipeE, wr_noexc, Option.map_some, Option.bind_some, reduceIte]
  rw [wo_cons]
  simp only [evS, evE, evEs, evAn, evOr, wo_outs, wo_nx, wo_rt, wr_bind, wr_ok, wo_ite, wr_ite, wr_lift, wr_tru, someEx, List.length_cons, List.length_nil, List.getElem?_cons_zero, List.getElem?_cons_succ, List.set_cons_zero, List.set_cons_succ, ix_lst, Nat.zero_add, Nat.reduceAdd, slB, isNon, D.isStr, if_true, evSl, evCs, tg_n, tg_t2, tg_t3, tg_t4, Tg.slots, Tg.slotss, wipeE, wr_noexc, Option.map_some, Option.bind_some, reduceIte, items_tup]
  rw [compL_map (g := fun r => .str r.sort) (fun p hp => by
    unfold Rl.d; simp only [evS, evE, evEs, evAn, evOr, wo_outs, wo_nx, wo_rt, wr_bind, wr_ok, wo_ite, wr_ite, wr_lift, wr_tru, someEx, List.length_cons, List.length_nil, List.getElem?_cons_zero, List.getElem?_cons_succ, List.set_cons_zero, List.set_cons_succ, ix_lst, Nat.zero_add, Nat.reduceAdd, slB, isNon, D.isStr, if_true, evSl, evCs, tg_n, tg_t2, tg_t3, tg_t4, Tg.slots, Tg.slotss, wipeE, wr_noexc, Option.map_some, Option.bind_some, reduceIte, Res.ok_bind, ix_tup, at2, lift_some, Res.ok_noexc])]
  have ad : evBin .add (.lst [.str b.base]) (.lst (b.rules.map fun r => D.str r.sort)) = some (.lst ((b.base :: b.rules.map Rl.sort).map .str)) := by
    rw [add_lst (by rw [List.length_map, sizeLine_eq]; have := ok.rules; show 1 + _ ≤ _; omega), List.map_cons, List.map_map]
    rfl
  simp only [evS, evE, evEs, evAn, evOr, wo_outs, wo_nx, wo_rt, wr_bind, wr_ok, wo_ite, wr_ite, wr_lift, wr_tru, someEx, List.length_cons, List.length_nil, List.getElem?_cons_zero, List.getElem?_cons_succ, List.set_cons_zero, List.set_cons_succ, ix_lst, Nat.zero_add, Nat.reduceAdd, slB, isNon, D.isStr, if_true, evSl, evCs, tg_n, tg_t2, tg_t3, tg_t4, Tg.slots, Tg.slotss, wipeE, wr_noexc, Option.map_some, Option.bind_some, reduceIte, ad, items_lst]
  rw [compL_true (fun d hd => by
    obtain ⟨w, hw, rfl⟩ := List.mem_map.mp hd
    have mw : w ∈ b.rates.map (·.1) := by
      rcases List.mem_cons.mp hw with e | hw
      · rw [e]
        exact ok.base
      · obtain ⟨r, hr, rfl⟩ := List.mem_map.mp hw
        exact (ok.rok r hr).2.2
    simp only [evS, evE, evEs, evAn, evOr, wo_outs, wo_nx, wo_rt, wr_bind, wr_ok, wo_ite, wr_ite, wr_lift, wr_tru, someEx, List.length_cons, List.length_nil, List.getElem?_cons_zero, List.getElem?_cons_succ, List.set_cons_zero, List.set_cons_succ, ix_lst, Nat.zero_add, Nat.reduceAdd, slB, isNon, D.isStr, if_true, evSl, evCs, tg_n, tg_t2, tg_t3, tg_t4, Tg.slots, Tg.slotss, wipeE, wr_noexc, Option.map_some, Option.bind_some, reduceIte, Res.ok_bind, isin_strs mw, lift_some, Res.ok_noexc])]
  simp only [evS, evE, evEs, evAn, evOr, wo_outs, wo_nx, wo_rt, wr_bind, wr_ok, wo_ite, wr_ite, wr_lift, wr_tru, someEx, List.length_cons, List.length_nil, List.getElem?_cons_zero, List.getElem?_cons_succ, List.set_cons_zero, List.set_cons_succ, ix_lst, Nat.zero_add, Nat.reduceAdd, slB, isNon, D.isStr, if_true, evSl, evCs, tg_n, tg_t2, tg_t3, tg_t4, Tg.slots, Tg.slotss, wipeE, wr_noexc, Option.map_some, Option.bind_some, reduceIte, all_true]
  exact ⟨trivial, trivial⟩
end VE

set_option Elab.async false
set_option linter.all false
set_option maxRecDepth 100000
set_option maxHeartbeats 4000000
/-! ZL, part 4: numbers, clocks, conditions read. -/
namespace VE
open PySem PySem.Spec PyProof.Rows L2

theorem tl_sT {m : Int} (h : 0 ≤ m) : TL.tl (sT m) = TL.numL m.toNat := by
  have e : m = ((m.toNat : Nat) : Int) := by omega
  unfold sT
  rw [e]
  exact TL.tl_num _
theorem num_head : ∀ n : Nat, 0 < n → ∃ c l, TL.numL n = c :: l ∧ c ≠ 48 := by
  intro n
  induction n using Nat.strongRecOn with
  | _ n ih =>
    intro h0
    by_cases h : n < 10
    · exact ⟨48 + n, [], TL.numL_lt h, by omega⟩
    · obtain ⟨c, l, e, hc⟩ := ih (n / 10) (by omega) (by omega)
      exact ⟨c, l ++ [48 + n % 10], by rw [TL.numL_step (by omega), e]; rfl, hc⟩
theorem sT_free {m : Int} (h : 0 ≤ m) {c : Nat} (hc : c < 48 ∨ 57 < c) : c ∉ TL.tl (sT m) := by
  rw [tl_sT h]
  exact TL.numL_free hc
theorem sT_pos {m : Int} (h : 0 ≤ m) : 1 ≤ (sT m).length := by
  rw [TL.len_tl, tl_sT h]
  exact List.length_pos_iff.mpr (TL.numL_ne _)
theorem int_sT {m : Int} (h : 0 ≤ m) (h1 : m < 10 ^ 7) : evBi .int [.str (sT m)] = some (.int m) := by
  show (if (sT m).length ≤ 640 then (PySem.intText? (sT m)).map D.int else none) = _
  rw [if_pos (Nat.le_trans (sT_len h h1) (by decide))]
  rw [show PySem.intText? (sT m) = some m from PySem.W.KIN.num_reads h (by omega)]
  rfl
def numF (g : Nat) : Fn := ⟨1, 2, true, [
  .iff (.orr [.no (.chn .le .le (.int 1) (.bi .len [.v 0]) (.int 7)), .an [.cmp .eq (.ix (.v 0) (.int 0)) (.str "0"), .cmp .ne (.v 0) (.str "0")]]) [.ret (.non)] [],
  .iff (.no (.bi .all [.comp (.cmp .isin (.v 1) (.g g)) (.n 1) (.v 0) []])) [.ret (.non)] [],
  .ret (.bi .int [.v 0])]⟩
theorem num_ok {P : Prog} {n k g : Nat} {m : Int} {S : Sto} (hf : P.fns[k]? = some (numF g)) (hg : P.gl[g]? = some (.str figs)) (h : 0 ≤ m) (h1 : m < 10 ^ 7) : run P (n + 1) k [.str (sT m)] S = .ok (.int m) S := by
  refine run_eq hf rfl ?_
  show Wo (evSs P.gl (run P n) (numF g).body [some (.str (sT m)), none] S) _ _
  unfold numF
  dsimp only
  rw [wo_cons]
  have l1 : (1 : Int) ≤ ((sT m).length : Int) := by have := sT_pos h; omega
  have l2 : ((sT m).length : Int) ≤ 7 := by have := sT_len h h1; omega
  have first : ∃ b : Bool, ∃ x : D, evIx (.str (sT m)) (.int 0) = some x ∧ evCmp .eq x (.str "0") = some b ∧ (b = true → evCmp .ne (.str (sT m)) (.str "0") = some false) := by
    by_cases z : m = 0
    · subst z
      exact ⟨true, .str "0", rfl, by rw [eq_str]; rfl, fun _ => by rw [ne_str]; rfl⟩
    · obtain ⟨c, l, e, hc⟩ := num_head m.toNat (by omega)
      have e1 : (sT m).cps.toList = c :: l := (tl_sT h).trans e
      refine ⟨false, .str ⟨#[c]⟩, ?_, ?_, fun z => by cases z⟩
      · show (atI (sT m).cps.toList 0).map _ = _
        rw [e1, atI_nat (x := c) (by decide) rfl]
        rfl
      · rw [eq_str]
        have : ((⟨#[c]⟩ : Str) == (Str.ofString "0")) = false := by
          refine beq_eq_false_iff_ne.mpr fun z => hc ?_
          have := congrArg (fun s : Str => s.cps.toList) z
          have : [c] = [48] := this
          cases this
          rfl
        rw [this]
  obtain ⟨b, x, f1, f2, f3⟩ := first
  cases b with
  | true =>
    simp only [evS, evE, evEs, evAn, evOr, wo_outs, wo_nx, wo_rt, wr_bind, wr_ok, wo_ite, wr_ite, wr_lift, wr_tru, someEx, List.length_cons, List.length_nil, List.getElem?_cons_zero, List.getElem?_cons_succ, List.set_cons_zero, List.set_cons_succ, ix_lst, Nat.zero_add, Nat.reduceAdd, slB, isNon, D.isStr, if_true, evSl, evCs, tg_n, tg_t2, tg_t3, tg_t4, Tg.slots, Tg.slotss, wipeE, wr_noexc, Option.map_some, Option.bind_some, reduceIte, len_str, le_int, decide_eq_true l1, decide_eq_true l2, Bool.not_true, f1, f2, f3 rfl, wo_nil, Bool.false_eq_true]
    rw [wo_cons]
    simp only [evS, evE, evEs, evAn, evOr, wo_outs, wo_nx, wo_rt, wr_bind, wr_ok, wo_ite, wr_ite, wr_lift, wr_tru, someEx, List.length_cons, List.length_nil, List.getElem?_cons_zero, List.getElem?_cons_succ, List.set_cons_zero, List.set_cons_succ, ix_lst, Nat.zero_add, Nat.reduceAdd, slB, isNon, D.isStr, if_true, evSl, evCs, tg_n, tg_t2, tg_t3, tg_t4, Tg.slots, Tg.slotss, wipeE, wr_noexc, Option.map_some, Option.bind_some, reduceIte, items_str]
    rw [compL_true (fun d hd => by
      obtain ⟨c, hc, rfl⟩ := List.mem_map.mp hd
      rw [tl_sT h] at hc
      simp only [evS, evE, evEs, evAn, evOr, wo_outs, wo_nx, wo_rt, wr_bind, wr_ok, wo_ite, wr_ite, wr_lift, wr_tru, someEx, List.length_cons, List.length_nil, List.getElem?_cons_zero, List.getElem?_cons_succ, List.set_cons_zero, List.set_cons_succ, ix_lst, Nat.zero_add, Nat.reduceAdd, slB, isNon, D.isStr, if_true, evSl, evCs, tg_n, tg_t2, tg_t3, tg_t4, Tg.slots, Tg.slotss, wipeE, wr_noexc, Option.map_some, Option.bind_some, reduceIte, Res.ok_bind, hg, lift_some, evIn_isin, in_figs (TL.numL_digits _ c hc), Res.ok_noexc])]
    simp only [evS, evE, evEs, evAn, evOr, wo_outs, wo_nx, wo_rt, wr_bind, wr_ok, wo_ite, wr_ite, wr_lift, wr_tru, someEx, List.length_cons, List.length_nil, List.getElem?_cons_zero, List.getElem?_cons_succ, List.set_cons_zero, List.set_cons_succ, ix_lst, Nat.zero_add, Nat.reduceAdd, slB, isNon, D.isStr, if_true, evSl, evCs, tg_n, tg_t2, tg_t3, tg_t4, Tg.slots, Tg.slotss, wipeE, wr_noexc, Option.map_some, Option.bind_some, reduceIte, all_true, Bool.not_true, wo_nil, Bool.false_eq_true]
    rw [wo_cons]
    simp only [evS, evE, evEs, evAn, evOr, wo_outs, wo_nx, wo_rt, wr_bind, wr_ok, wo_ite, wr_ite, wr_lift, wr_tru, someEx, List.length_cons, List.length_nil, List.getElem?_cons_zero, List.getElem?_cons_succ, List.set_cons_zero, List.set_cons_succ, ix_lst, Nat.zero_add, Nat.reduceAdd, slB, isNon, D.isStr, if_true, evSl, evCs, tg_n, tg_t2, tg_t3, tg_t4, Tg.slots, Tg.slotss, wipeE, wr_noexc, Option.map_some, Option.bind_some, reduceIte, int_sT h h1]
    exact ⟨trivial, trivial⟩
  | false =>
    simp only [evS, evE, evEs, evAn, evOr, wo_outs, wo_nx, wo_rt, wr_bind, wr_ok, wo_ite, wr_ite, wr_lift, wr_tru, someEx, List.length_cons, List.length_nil, List.getElem?_cons_zero, List.getElem?_cons_succ, List.set_cons_zero, List.set_cons_succ, ix_lst, Nat.zero_add, Nat.reduceAdd, slB, isNon, D.isStr, if_true, evSl, evCs, tg_n, tg_t2, tg_t3, tg_t4, Tg.slots, Tg.slotss, wipeE, wr_noexc, Option.map_some, Option.bind_some, reduceIte, len_str, le_int, decide_eq_true l1, decide_eq_true l2, Bool.not_true, f1, f2, wo_nil, Bool.false_eq_true]
    rw [wo_cons]
    simp only [evS, evE, evEs, evAn, evOr, wo_outs, wo_nx, wo_rt, wr_bind, wr_ok, wo_ite, wr_ite, wr_lift, wr_tru, someEx, List.length_cons, List.length_nil, List.getElem?_cons_zero, List.getElem?_cons_succ, List.set_cons_zero, List.set_cons_succ, ix_lst, Nat.zero_add, Nat.reduceAdd, slB, isNon, D.isStr, if_true, evSl, evCs, tg_n, tg_t2, tg_t3, tg_t4, Tg.slots, Tg.slotss, wipeE, wr_noexc, Option.map_some, Option.bind_some, reduceIte, items_str]
    rw [compL_true (fun d hd => by
      obtain ⟨c, hc, rfl⟩ := List.mem_map.mp hd
      rw [tl_sT h] at hc
      simp only [evS, evE, evEs, evAn, evOr, wo_outs, wo_nx, wo_rt, wr_bind, wr_ok, wo_ite, wr_ite, wr_lift, wr_tru, someEx, List.length_cons, List.length_nil, List.getElem?_cons_zero, List.getElem?_cons_succ, List.set_cons_zero, List.set_cons_succ, ix_lst, Nat.zero_add, Nat.reduceAdd, slB, isNon, D.isStr, if_true, evSl, evCs, tg_n, tg_t2, tg_t3, tg_t4, Tg.slots, Tg.slotss, wipeE, wr_noexc, Option.map_some, Option.bind_some, reduceIte, Res.ok_bind, hg, lift_some, evIn_isin, in_figs (TL.numL_digits _ c hc), Res.ok_noexc])]
    simp only [evS, evE, evEs, evAn, evOr, wo_outs, wo_nx, wo_rt, wr_bind, wr_ok, wo_ite, wr_ite, wr_lift, wr_tru, someEx, List.length_cons, List.length_nil, List.getElem?_cons_zero, List.getElem?_cons_succ, List.set_cons_zero, List.set_cons_succ, ix_lst, Nat.zero_add, Nat.reduceAdd, slB, isNon, D.isStr, if_true, evSl, evCs, tg_n, tg_t2, tg_t3, tg_t4, Tg.slots, Tg.slotss, wipeE, wr_noexc, Option.map_some, Option.bind_some, reduceIte, all_true, Bool.not_true, wo_nil, Bool.false_eq_true]
    rw [wo_cons]
    simp only [evS, evE, evEs, evAn, evOr, wo_outs, wo_nx, wo_rt, wr_bind, wr_ok, wo_ite, wr_ite, wr_lift, wr_tru, someEx, List.length_cons, List.length_nil, List.getElem?_cons_zero, List.getElem?_cons_succ, List.set_cons_zero, List.set_cons_succ, ix_lst, Nat.zero_add, Nat.reduceAdd, slB, isNon, D.isStr, if_true, evSl, evCs, tg_n, tg_t2, tg_t3, tg_t4, Tg.slots, Tg.slotss, wipeE, wr_noexc, Option.map_some, Option.bind_some, reduceIte, int_sT h h1]
    exact ⟨trivial, trivial⟩
theorem two_all : ∀ n : Nat, n < 100 → (two (n : Int)).length = 2 ∧ (∀ c ∈ TL.tl (two (n : Int)), 48 ≤ c ∧ c ≤ 57) ∧ PySem.intText? (two (n : Int)) = some (n : Int) := by decide +kernel
theorem two_at {m : Int} (h0 : 0 ≤ m) (h1 : m < 100) : (two m).length = 2 ∧ (∀ c ∈ TL.tl (two m), 48 ≤ c ∧ c ≤ 57) ∧ evBi .int [.str (two m)] = some (.int m) := by
  have := two_all m.toNat (by omega)
  have e : ((m.toNat : Nat) : Int) = m := by omega
  rw [e] at this
  obtain ⟨a, b, c⟩ := this
  refine ⟨a, b, ?_⟩
  show (if (two m).length ≤ 640 then (PySem.intText? (two m)).map D.int else none) = _
  rw [if_pos (by rw [a]; decide), c]
  rfl
def afigF (g : Nat) : Fn := ⟨1, 2, false, [
  .ret (.an [.cmp .ne (.v 0) (.str ""), .bi .all [.comp (.cmp .isin (.v 1) (.g g)) (.n 1) (.v 0) []]])]⟩
theorem afig_ok {P : Prog} {n k g : Nat} {s : Str} {S : Sto} (hf : P.fns[k]? = some (afigF g)) (hg : P.gl[g]? = some (.str figs)) (h : 1 ≤ s.length) (hd : ∀ c ∈ TL.tl s, 48 ≤ c ∧ c ≤ 57) : run P (n + 1) k [.str s] S = .ok (.bl true) S := by
  refine run_eq hf rfl ?_
  show Wo (evSs P.gl (run P n) (afigF g).body [some (.str s), none] S) _ _
  unfold afigF
  dsimp only
  rw [wo_cons]
  have e0 : (s == Str.ofString "") = false := beq_eq_false_iff_ne.mpr fun z => by
    rw [z] at h
    exact absurd h (by decide)
  simp only [evS, evE, evEs, evAn, evOr, wo_outs, wo_nx, wo_rt, wr_bind, wr_ok, wo_ite, wr_ite, wr_lift, wr_tru, someEx, List.length_cons, List.length_nil, List.getElem?_cons_zero, List.getElem?_cons_succ, List.set_cons_zero, List.set_cons_succ, ix_lst, Nat.zero_add, Nat.reduceAdd, slB, isNon, D.isStr, if_true, evSl, evCs, tg_n, tg_t2, tg_t3, tg_t4, Tg.slots, Tg.slotss, wipeE, wr_noexc, Option.map_some, Option.bind_some, reduceIte, ne_str, e0, Bool.not_false, items_str]
  rw [compL_true (fun d hd2 => by
    obtain ⟨c, hc, rfl⟩ := List.mem_map.mp hd2
    simp only [evS, evE, evEs, evAn, evOr, wo_outs, wo_nx, wo_rt, wr_bind, wr_ok, wo_ite, wr_ite, wr_lift, wr_tru, someEx, List.length_cons, List.length_nil, List.getElem?_cons_zero, List.getElem?_cons_succ, List.set_cons_zero, List.set_cons_succ, ix_lst, Nat.zero_add, Nat.reduceAdd, slB, isNon, D.isStr, if_true, evSl, evCs, tg_n, tg_t2, tg_t3, tg_t4, Tg.slots, Tg.slotss, wipeE, wr_noexc, Option.map_some, Option.bind_some, reduceIte, Res.ok_bind, hg, lift_some, evIn_isin, in_figs (hd c hc), Res.ok_noexc])]
  simp only [evS, evE, evEs, evAn, evOr, wo_outs, wo_nx, wo_rt, wr_bind, wr_ok, wo_ite, wr_ite, wr_lift, wr_tru, someEx, List.length_cons, List.length_nil, List.getElem?_cons_zero, List.getElem?_cons_succ, List.set_cons_zero, List.set_cons_succ, ix_lst, Nat.zero_add, Nat.reduceAdd, slB, isNon, D.isStr, if_true, evSl, evCs, tg_n, tg_t2, tg_t3, tg_t4, Tg.slots, Tg.slotss, wipeE, wr_noexc, Option.map_some, Option.bind_some, reduceIte, all_true]
  exact ⟨trivial, trivial⟩
def rclockF (k3 : Nat) : Fn := ⟨1, 4, true, [
  .asgT (.t [.n 1, .n 2, .n 3]) (.me .partition (.v 0) [.str ":"]),
  .iff (.orr [.cmp .eq (.v 2) (.str ""), .cmp .ne (.bi .len [.v 1]) (.int 2), .cmp .ne (.bi .len [.v 3]) (.int 2), .no (.call k3 [.bin .add (.v 1) (.v 3)])]) [.ret (.non)] [],
  .iff (.orr [.cmp .gt (.bi .int [.v 1]) (.int 23), .cmp .gt (.bi .int [.v 3]) (.int 59)]) [.ret (.non)] [],
  .ret (.bin .add (.bin .mul (.int 60) (.bi .int [.v 1])) (.bi .int [.v 3]))]⟩
theorem rclock_ok {P : Prog} {n k k3 g : Nat} {x : Int} {S : Sto} (hf : P.fns[k]? = some (rclockF k3)) (h3 : P.fns[k3]? = some (afigF g)) (hg : P.gl[g]? = some (.str figs)) (h0 : 0 ≤ x) (h1 : x < 1440) : run P (n + 2) k [.str (clT x)] S = .ok (.int x) S := by
  refine run_eq hf rfl ?_
  show Wo (evSs P.gl (run P (n + 1)) (rclockF k3).body [some (.str (clT x)), none, none, none] S) _ _
  unfold rclockF
  dsimp only
  obtain ⟨a1, a2, a3⟩ := two_at (m := x / 60) (by omega) (by omega)
  obtain ⟨b1, b2, b3⟩ := two_at (m := x % 60) (by omega) (by omega)
  have pe : evMe .partition (.str (clT x)) [.str ":"] = some (.tup [.str (two (x / 60)), .str ":", .str (two (x % 60))]) :=
    part_ev (c := 58) rfl (fun z => by have := a2 58 z; omega) (Nat.le_trans (clT_len h0 h1) (by decide))
  rw [wo_cons]
  simp only [evS, evE, evEs, evAn, evOr, wo_outs, wo_nx, wo_rt, wr_bind, wr_ok, wo_ite, wr_ite, wr_lift, wr_tru, someEx, List.length_cons, List.length_nil, List.getElem?_cons_zero, List.getElem?_cons_succ, List.set_cons_zero, List.set_cons_succ, ix_lst, Nat.zero_add, Nat.reduceAdd, slB, isNon, D.isStr, if_true, evSl, evCs, tg_n, tg_t2, tg_t3, tg_t4, Tg.slots, Tg.slotss, wipeE, wr_noexc, Option.map_some, Option.bind_some, reduceIte, pe]
  rw [wo_cons]
  have e0 : (Str.ofString ":" == Str.ofString "") = false := rfl
  have e2 : ((2 : Nat) : Int) = 2 := rfl
  have ad : evBin .add (.str (two (x / 60))) (.str (two (x % 60))) = some (.str (two (x / 60) ++ two (x % 60))) := add_str (by rw [a1, b1]; decide)
  have fg : run P (n + 1) k3 [.str (two (x / 60) ++ two (x % 60))] S = .ok (.bl true) S := afig_ok h3 hg (by rw [Str.length_append, a1]; omega) fun c hc => by
    rw [TL.tl_append] at hc
    rcases List.mem_append.mp hc with q | q
    · exact a2 c q
    · exact b2 c q
  simp only [evS, evE, evEs, evAn, evOr, wo_outs, wo_nx, wo_rt, wr_bind, wr_ok, wo_ite, wr_ite, wr_lift, wr_tru, someEx, List.length_cons, List.length_nil, List.getElem?_cons_zero, List.getElem?_cons_succ, List.set_cons_zero, List.set_cons_succ, ix_lst, Nat.zero_add, Nat.reduceAdd, slB, isNon, D.isStr, if_true, evSl, evCs, tg_n, tg_t2, tg_t3, tg_t4, Tg.slots, Tg.slotss, wipeE, wr_noexc, Option.map_some, Option.bind_some, reduceIte, eq_str, e0, len_str, a1, b1, ne_int, e2, beq_self_eq_true, Bool.not_true, ad, fg, wo_nil, Bool.false_eq_true]
  rw [wo_cons]
  simp only [evS, evE, evEs, evAn, evOr, wo_outs, wo_nx, wo_rt, wr_bind, wr_ok, wo_ite, wr_ite, wr_lift, wr_tru, someEx, List.length_cons, List.length_nil, List.getElem?_cons_zero, List.getElem?_cons_succ, List.set_cons_zero, List.set_cons_succ, ix_lst, Nat.zero_add, Nat.reduceAdd, slB, isNon, D.isStr, if_true, evSl, evCs, tg_n, tg_t2, tg_t3, tg_t4, Tg.slots, Tg.slotss, wipeE, wr_noexc, Option.map_some, Option.bind_some, reduceIte, a3, b3, gt_int, decide_eq_false (show ¬ (23 : Int) < x / 60 by omega), decide_eq_false (show ¬ (59 : Int) < x % 60 by omega), wo_nil, Bool.false_eq_true]
  rw [wo_cons]
  have ml : evBin .mul (.int 60) (.int (x / 60)) = some (.int (60 * (x / 60))) := mul_int (.inl ⟨by decide, by decide⟩)
  simp only [evS, evE, evEs, evAn, evOr, wo_outs, wo_nx, wo_rt, wr_bind, wr_ok, wo_ite, wr_ite, wr_lift, wr_tru, someEx, List.length_cons, List.length_nil, List.getElem?_cons_zero, List.getElem?_cons_succ, List.set_cons_zero, List.set_cons_succ, ix_lst, Nat.zero_add, Nat.reduceAdd, slB, isNon, D.isStr, if_true, evSl, evCs, tg_n, tg_t2, tg_t3, tg_t4, Tg.slots, Tg.slotss, wipeE, wr_noexc, Option.map_some, Option.bind_some, reduceIte, a3, b3, ml, add_int]
  have : 60 * (x / 60) + x % 60 = x := by omega
  rw [this]
  exact ⟨rfl, trivial⟩
def ccondF (k4 k15 : Nat) : Fn := ⟨1, 3, true, [
  .iff (.cmp .eq (.ix (.v 0) (.int 0)) (.str "clock")) [.ret (.bin .add (.tup [.str "clock"]) (.bi .tuple [.comp (.call k4 [.v 1]) (.n 1) (.sl (.v 0) (.int 1) (.non)) []]))] [],
  .iff (.cmp .eq (.ix (.v 0) (.int 0)) (.str "days")) [.ret (.tup [.str "days", .bi .tuple [.comp (.call k15 [.v 2]) (.n 2) (.ix (.v 0) (.int 1)) []]])] [],
  .ret (.bin .add (.tup [.ix (.v 0) (.int 0)]) (.bi .tuple [.comp (.call k15 [.v 1]) (.n 1) (.sl (.v 0) (.int 1) (.non)) []]))]⟩
theorem day_one {x : Int} (h0 : 0 ≤ x) (h1 : x ≤ 6) : TL.tl (sT x) = [48 + x.toNat] ∧ (⟨#[48 + x.toNat]⟩ : Str) = sT x := by
  have e : TL.tl (sT x) = [48 + x.toNat] := by rw [tl_sT h0, TL.numL_lt (by omega)]
  exact ⟨e, (TL.ext_tl (e.trans rfl)).symm⟩
theorem days_flat : ∀ {ns : List Int}, (∀ x ∈ ns, 0 ≤ x ∧ x ≤ 6) → (((ns.map sT).map TL.tl).flatten.map fun c => D.str ⟨#[c]⟩) = ns.map fun x => .str (sT x)
  | [], _ => rfl
  | x :: l, h => by
    obtain ⟨e1, e2⟩ := day_one (h x List.mem_cons_self).1 (h x List.mem_cons_self).2
    rw [List.map_cons, List.map_cons, List.flatten_cons, List.map_append, days_flat fun y hy => h y (List.mem_cons_of_mem _ hy), e1, List.map_cons]
    show D.str ⟨#[48 + x.toNat]⟩ :: _ = _
    rw [e2]
    rfl
theorem days_items {ns : List Int} (h : ∀ x ∈ ns, 0 ≤ x ∧ x ≤ 6) : items (.str (daysT ns)) = some (ns.map fun x => .str (sT x)) := by
  rw [items_str]
  unfold daysT
  rw [tl_joinE, show TL.tl (Str.ofString "") = [] from rfl, joinL_nil, days_flat h]
theorem ccond_ok {P : Prog} {n k k3 k4 k15 g g' : Nat} {c : Cn} {S : Sto} (hf : P.fns[k]? = some (ccondF k4 k15)) (h4 : P.fns[k4]? = some (rclockF k3)) (h3 : P.fns[k3]? = some (afigF g)) (hg : P.gl[g]? = some (.str figs)) (h15 : P.fns[k15]? = some (numF g')) (hg' : P.gl[g']? = some (.str figs)) (ok : c.Ok) :
    run P (n + 3) k [.lst (c.ws.map .str)] S = .ok c.d S := by
  refine run_eq hf rfl ?_
  show Wo (evSs P.gl (run P (n + 2)) (ccondF k4 k15).body [some (.lst (c.ws.map .str)), none, none] S) _ _
  unfold ccondF
  dsimp only
  cases c with
  | feast =>
    show Wo (evSs P.gl (run P (n + 2)) _ [some (.lst [.str "feast"]), none, none] S) _ _
    rw [wo_cons]
    simp only [evS, evE, evEs, evAn, evOr, wo_outs, wo_nx, wo_rt, wr_bind, wr_ok, wo_ite, wr_ite, wr_lift, wr_tru, someEx, List.length_cons, List.length_nil, List.getElem?_cons_zero, List.getElem?_cons_succ, List.set_cons_zero, List.set_cons_succ, ix_lst, Nat.zero_add, Nat.reduceAdd, slB, isNon, D.isStr, if_true, evSl, evCs, tg_n, tg_t2, tg_t3, tg_t4, Tg.slots, Tg.slotss, wipeE, wr_noexc, Option.map_some, Option.bind_some, reduceIte, at0, eq_str, w1, wo_nil, Bool.false_eq_true]
    rw [wo_cons]
    simp only [evS, evE, evEs, evAn, evOr, wo_outs, wo_nx, wo_rt, wr_bind, wr_ok, wo_ite, wr_ite, wr_lift, wr_tru, someEx, List.length_cons, List.length_nil, List.getElem?_cons_zero, List.getElem?_cons_succ, List.set_cons_zero, List.set_cons_succ, ix_lst, Nat.zero_add, Nat.reduceAdd, slB, isNon, D.isStr, if_true, evSl, evCs, tg_n, tg_t2, tg_t3, tg_t4, Tg.slots, Tg.slotss, wipeE, wr_noexc, Option.map_some, Option.bind_some, reduceIte, at0, eq_str, w2, wo_nil, Bool.false_eq_true]
    rw [wo_cons]
    simp only [evS, evE, evEs, evAn, evOr, wo_outs, wo_nx, wo_rt, wr_bind, wr_ok, wo_ite, wr_ite, wr_lift, wr_tru, someEx, List.length_cons, List.length_nil, List.getElem?_cons_zero, List.getElem?_cons_succ, List.set_cons_zero, List.set_cons_succ, ix_lst, Nat.zero_add, Nat.reduceAdd, slB, isNon, D.isStr, if_true, evSl, evCs, tg_n, tg_t2, tg_t3, tg_t4, Tg.slots, Tg.slotss, wipeE, wr_noexc, Option.map_some, Option.bind_some, reduceIte, at0, cut1, items_lst, compL, evTupL]
    exact ⟨_, add_tup (by decide), rfl, trivial⟩
  | days ns =>
    show Wo (evSs P.gl (run P (n + 2)) _ [some (.lst [.str "days", .str (daysT ns)]), none, none] S) _ _
    rw [wo_cons]
    simp only [evS, evE, evEs, evAn, evOr, wo_outs, wo_nx, wo_rt, wr_bind, wr_ok, wo_ite, wr_ite, wr_lift, wr_tru, someEx, List.length_cons, List.length_nil, List.getElem?_cons_zero, List.getElem?_cons_succ, List.set_cons_zero, List.set_cons_succ, ix_lst, Nat.zero_add, Nat.reduceAdd, slB, isNon, D.isStr, if_true, evSl, evCs, tg_n, tg_t2, tg_t3, tg_t4, Tg.slots, Tg.slotss, wipeE, wr_noexc, Option.map_some, Option.bind_some, reduceIte, at0, eq_str, w3, wo_nil, Bool.false_eq_true]
    rw [wo_cons]
    simp only [evS, evE, evEs, evAn, evOr, wo_outs, wo_nx, wo_rt, wr_bind, wr_ok, wo_ite, wr_ite, wr_lift, wr_tru, someEx, List.length_cons, List.length_nil, List.getElem?_cons_zero, List.getElem?_cons_succ, List.set_cons_zero, List.set_cons_succ, ix_lst, Nat.zero_add, Nat.reduceAdd, slB, isNon, D.isStr, if_true, evSl, evCs, tg_n, tg_t2, tg_t3, tg_t4, Tg.slots, Tg.slotss, wipeE, wr_noexc, Option.map_some, Option.bind_some, reduceIte, at0, eq_str, w4, wo_nil]
    rw [wo_cons]
    simp only [evS, evE, evEs, evAn, evOr, wo_outs, wo_nx, wo_rt, wr_bind, wr_ok, wo_ite, wr_ite, wr_lift, wr_tru, someEx, List.length_cons, List.length_nil, List.getElem?_cons_zero, List.getElem?_cons_succ, List.set_cons_zero, List.set_cons_succ, ix_lst, Nat.zero_add, Nat.reduceAdd, slB, isNon, D.isStr, if_true, evSl, evCs, tg_n, tg_t2, tg_t3, tg_t4, Tg.slots, Tg.slotss, wipeE, wr_noexc, Option.map_some, Option.bind_some, reduceIte, at1, days_items ok.2.2.2]
    rw [compL_map (g := D.int) (fun x hx => by
      obtain ⟨x0, x1⟩ := ok.2.2.2 x hx
      simp only [evS, evE, evEs, evAn, evOr, wo_outs, wo_nx, wo_rt, wr_bind, wr_ok, wo_ite, wr_ite, wr_lift, wr_tru, someEx, List.length_cons, List.length_nil, List.getElem?_cons_zero, List.getElem?_cons_succ, List.set_cons_zero, List.set_cons_succ, ix_lst, Nat.zero_add, Nat.reduceAdd, slB, isNon, D.isStr, if_true, evSl, evCs, tg_n, tg_t2, tg_t3, tg_t4, Tg.slots, Tg.slotss, wipeE, wr_noexc, Option.map_some, Option.bind_some, reduceIte, Res.ok_bind, num_ok h15 hg' x0 (show x < 10 ^ 7 by omega), Res.ok_noexc])]
    simp only [evS, evE, evEs, evAn, evOr, wo_outs, wo_nx, wo_rt, wr_bind, wr_ok, wo_ite, wr_ite, wr_lift, wr_tru, someEx, List.length_cons, List.length_nil, List.getElem?_cons_zero, List.getElem?_cons_succ, List.set_cons_zero, List.set_cons_succ, ix_lst, Nat.zero_add, Nat.reduceAdd, slB, isNon, D.isStr, if_true, evSl, evCs, tg_n, tg_t2, tg_t3, tg_t4, Tg.slots, Tg.slotss, wipeE, wr_noexc, Option.map_some, Option.bind_some, reduceIte, evTupL]
    exact ⟨rfl, trivial⟩
  | clock a b =>
    obtain ⟨a0, a1, b0, b1, _⟩ := ok
    show Wo (evSs P.gl (run P (n + 2)) _ [some (.lst [.str "clock", .str (clT a), .str (clT b)]), none, none] S) _ _
    rw [wo_cons]
    simp only [evS, evE, evEs, evAn, evOr, wo_outs, wo_nx, wo_rt, wr_bind, wr_ok, wo_ite, wr_ite, wr_lift, wr_tru, someEx, List.length_cons, List.length_nil, List.getElem?_cons_zero, List.getElem?_cons_succ, List.set_cons_zero, List.set_cons_succ, ix_lst, Nat.zero_add, Nat.reduceAdd, slB, isNon, D.isStr, if_true, evSl, evCs, tg_n, tg_t2, tg_t3, tg_t4, Tg.slots, Tg.slotss, wipeE, wr_noexc, Option.map_some, Option.bind_some, reduceIte, at0, eq_str, w5, wo_nil]
    rw [wo_cons]
    simp only [evS, evE, evEs, evAn, evOr, wo_outs, wo_nx, wo_rt, wr_bind, wr_ok, wo_ite, wr_ite, wr_lift, wr_tru, someEx, List.length_cons, List.length_nil, List.getElem?_cons_zero, List.getElem?_cons_succ, List.set_cons_zero, List.set_cons_succ, ix_lst, Nat.zero_add, Nat.reduceAdd, slB, isNon, D.isStr, if_true, evSl, evCs, tg_n, tg_t2, tg_t3, tg_t4, Tg.slots, Tg.slotss, wipeE, wr_noexc, Option.map_some, Option.bind_some, reduceIte, cut1, items_lst, compL, Res.ok_bind, rclock_ok h4 h3 hg a0 a1, rclock_ok h4 h3 hg b0 b1, Res.ok_noexc, evTupL]
    exact ⟨_, add_tup (show 3 ≤ sizeLine by decide), rfl, trivial⟩
  | num w m =>
    obtain ⟨e1, e2, m0, m1⟩ := num_ne ok
    show Wo (evSs P.gl (run P (n + 2)) _ [some (.lst [.str w, .str (sT m)]), none, none] S) _ _
    rw [wo_cons]
    simp only [evS, evE, evEs, evAn, evOr, wo_outs, wo_nx, wo_rt, wr_bind, wr_ok, wo_ite, wr_ite, wr_lift, wr_tru, someEx, List.length_cons, List.length_nil, List.getElem?_cons_zero, List.getElem?_cons_succ, List.set_cons_zero, List.set_cons_succ, ix_lst, Nat.zero_add, Nat.reduceAdd, slB, isNon, D.isStr, if_true, evSl, evCs, tg_n, tg_t2, tg_t3, tg_t4, Tg.slots, Tg.slotss, wipeE, wr_noexc, Option.map_some, Option.bind_some, reduceIte, at0, eq_str, e1, wo_nil, Bool.false_eq_true]
    rw [wo_cons]
    simp only [evS, evE, evEs, evAn, evOr, wo_outs, wo_nx, wo_rt, wr_bind, wr_ok, wo_ite, wr_ite, wr_lift, wr_tru, someEx, List.length_cons, List.length_nil, List.getElem?_cons_zero, List.getElem?_cons_succ, List.set_cons_zero, List.set_cons_succ, ix_lst, Nat.zero_add, Nat.reduceAdd, slB, isNon, D.isStr, if_true, evSl, evCs, tg_n, tg_t2, tg_t3, tg_t4, Tg.slots, Tg.slotss, wipeE, wr_noexc, Option.map_some, Option.bind_some, reduceIte, at0, eq_str, e2, wo_nil, Bool.false_eq_true]
    rw [wo_cons]
    simp only [evS, evE, evEs, evAn, evOr, wo_outs, wo_nx, wo_rt, wr_bind, wr_ok, wo_ite, wr_ite, wr_lift, wr_tru, someEx, List.length_cons, List.length_nil, List.getElem?_cons_zero, List.getElem?_cons_succ, List.set_cons_zero, List.set_cons_succ, ix_lst, Nat.zero_add, Nat.reduceAdd, slB, isNon, D.isStr, if_true, evSl, evCs, tg_n, tg_t2, tg_t3, tg_t4, Tg.slots, Tg.slotss, wipeE, wr_noexc, Option.map_some, Option.bind_some, reduceIte, at0, cut1, items_lst, compL, Res.ok_bind, num_ok h15 hg' (show 0 ≤ m by omega) (show m < 10 ^ 7 by omega), Res.ok_noexc, evTupL]
    exact ⟨_, add_tup (show 2 ≤ sizeLine by decide), rfl, trivial⟩
end VE

set_option Elab.async false
set_option linter.all false
set_option maxRecDepth 100000
set_option maxHeartbeats 4000000
/-! ZL, part 5: rows read. -/
namespace VE
open PySem PySem.Spec PyProof.Rows L2

/-- a while by turns -/
theorem wo_while {c : Env → Sto → Res Bool} {f : Env → Sto → Out} {I : Nat → Env → Sto → Prop} {K : Nat} {N : Env → Sto → Prop} {R : D → Sto → Prop} (hs : ∀ i env S, i < K → I i env S → Wr (c env S) fun b S' => b = true ∧ Wo (f env S') (fun e S => I (i + 1) e S) R)
    (he : ∀ env S, I K env S → Wr (c env S) fun b S' => b = false ∧ N env S') : ∀ (m i n : Nat) (env : Env) (S : Sto), i + m = K → m < n → I i env S → Wo (whileL c f n env S) N R := by
  intro m
  induction m with
  | zero =>
    intro i n env S hi hn h
    have hi : i = K := hi
    subst hi
    cases n with
    | zero => omega
    | succ n =>
      unfold whileL
      rw [wo_outs]
      refine wr_mono (he env S h) fun b S' ⟨e, q⟩ => ?_
      subst e
      exact q
  | succ m ih =>
    intro i n env S hi hn h
    cases n with
    | zero => omega
    | succ n =>
      unfold whileL
      rw [wo_outs]
      refine wr_mono (hs i env S (by omega) h) fun b S' ⟨e, q⟩ => ?_
      subst e
      rw [if_pos rfl, wo_then]
      exact wo_mono q (fun e S h => ih (i + 1) n e S (by omega) (by omega) h) fun _ _ z => z
def lens : List (Str × Int) := [("clock", 3), ("days", 2), ("feast", 1), ("day", 2), ("week", 2)]
theorem dget_ws {c : Cn} (h : c.Ok) (y : D) : evDget lens (.str c.word) y = some (.int c.ws.length) := by
  cases c with
  | num w n => rcases h with ⟨e, _⟩ | ⟨e, _⟩ <;> subst e <;> rfl
  | _ => rfl
theorem ws_head (c : Cn) : ∃ l, c.ws = c.word :: l := by cases c <;> exact ⟨_, rfl⟩
def condsF (k : Nat) : Fn := ⟨1, 4, true, [
  .asg 1 (.lst []),
  .asg 2 (.int 0),
  .whil (.cmp .lt (.v 2) (.bi .len [.v 0])) [.asg 3 (.dget "LENGTHS" lens (.ix (.v 0) (.v 2)) (.bin .add (.bi .len [.v 0]) (.int 1))), .iff (.cmp .gt (.bin .add (.v 2) (.v 3)) (.bi .len [.v 0])) [.ret (.non)] [], .app 1 (.call k [.sl (.v 0) (.v 2) (.bin .add (.v 2) (.v 3))]), .asg 2 (.bin .add (.v 2) (.v 3)), .frz [2]],
  .ret (.bi .tuple [.v 1])]⟩
theorem wsOf_at {cs : List Cn} {i : Nat} {c : Cn} (h : cs[i]? = some c) : wsOf cs = wsOf (cs.take i) ++ (c.ws ++ wsOf (cs.drop (i + 1))) := by
  have lt := (List.getElem?_eq_some_iff.mp h).1
  have e : cs = cs.take i ++ c :: cs.drop (i + 1) := by
    have := (List.getElem?_eq_some_iff.mp h).2
    rw [← this, List.getElem_cons_drop lt, List.take_append_drop]
  conv => lhs; rw [e]
  unfold wsOf
  rw [List.flatMap_append, List.flatMap_cons]
theorem conds_ok {P : Prog} {n k k3 k4 k15 k19 g g' : Nat} {cs : List Cn} {S : Sto} (hf : P.fns[k]? = some (condsF k19)) (h19 : P.fns[k19]? = some (ccondF k4 k15)) (h4 : P.fns[k4]? = some (rclockF k3)) (h3 : P.fns[k3]? = some (afigF g)) (hg : P.gl[g]? = some (.str figs)) (h15 : P.fns[k15]? = some (numF g')) (hg' : P.gl[g']? = some (.str figs))
    (ok : ∀ c ∈ cs, c.Ok) (few : cs.length ≤ 5) : run P (n + 4) k [.lst ((wsOf cs).map .str)] S = .ok (.tup (cs.map Cn.d)) S := by
  refine run_eq hf rfl ?_
  show Wo (evSs P.gl (run P (n + 3)) (condsF k19).body [some (.lst ((wsOf cs).map .str)), none, none, none] S) _ _
  unfold condsF
  dsimp only
  rw [wo_cons]
  simp only [evS, evE, evEs, evAn, evOr, wo_outs, wo_nx, wo_rt, wr_bind, wr_ok, wo_ite, wr_ite, wr_lift, wr_tru, someEx, List.length_cons, List.length_nil, List.getElem?_cons_zero, List.getElem?_cons_succ, List.set_cons_zero, List.set_cons_succ, ix_lst, Nat.zero_add, Nat.reduceAdd, slB, isNon, D.isStr, if_true, evSl, evCs, tg_n, tg_t2, tg_t3, tg_t4, Tg.slots, Tg.slotss, wipeE, wr_noexc, Option.map_some, Option.bind_some, reduceIte]
  rw [wo_cons]
  simp only [evS, evE, evEs, evAn, evOr, wo_outs, wo_nx, wo_rt, wr_bind, wr_ok, wo_ite, wr_ite, wr_lift, wr_tru, someEx, List.length_cons, List.length_nil, List.getElem?_cons_zero, List.getElem?_cons_succ, List.set_cons_zero, List.set_cons_succ, ix_lst, Nat.zero_add, Nat.reduceAdd, slB, isNon, D.isStr, if_true, evSl, evCs, tg_n, tg_t2, tg_t3, tg_t4, Tg.slots, Tg.slotss, wipeE, wr_noexc, Option.map_some, Option.bind_some, reduceIte]
  rw [wo_cons]
  have lw := (wsOf_len ok).1
  simp only [evS]
  refine wo_while (K := cs.length) (I := fun i env S' => S' = S ∧ ∃ x3, env = [some (.lst ((wsOf cs).map .str)), some (.lst ((cs.take i).map Cn.d)), some (.int ((wsOf (cs.take i)).length : Nat)), x3]) (fun i env S' lt ⟨es, x3, ee⟩ => ?_) (fun env S' ⟨es, x3, ee⟩ => ?_) cs.length 0 turns _ S (Nat.zero_add _) (Nat.lt_of_le_of_lt few (by decide)) ⟨rfl, none, rfl⟩
  · subst es ee
    obtain ⟨c, hc⟩ : ∃ c, cs[i]? = some c := ⟨cs[i], List.getElem?_eq_getElem lt⟩
    have co := ok c (List.mem_of_getElem? hc)
    have ew := wsOf_at hc
    generalize hW : wsOf cs = W at *
    generalize hA : wsOf (cs.take i) = A at *
    generalize hB : wsOf (cs.drop (i + 1)) = B at *
    obtain ⟨l, hl⟩ := ws_head c
    have cl : 1 ≤ c.ws.length := by
      rw [hl]
      exact Nat.succ_le_succ (Nat.zero_le _)
    have eL : W.length = A.length + (c.ws.length + B.length) := by rw [ew, List.length_append, List.length_append]
    have l1 : ((A.length : Nat) : Int) < ((W.map D.str).length : Nat) := by
      rw [List.length_map, eL]
      omega
    have ix : atI (W.map D.str) ((A.length : Nat) : Int) = some (.str c.word) := atI_nat (by omega) (by
      have : W[A.length]? = some c.word := by rw [ew, List.getElem?_append_right (Nat.le_refl _), Nat.sub_self, hl]; rfl
      rw [List.getElem?_map, Int.toNat_natCast, this]
      rfl)
    have sl : cutD (W.map D.str) (some ((A.length : Nat) : Int)) (some ((A.length : Int) + (c.ws.length : Int))) = c.ws.map .str := by
      rw [cut_mid _ (by omega) (by omega), ← List.map_drop, ← List.map_take]
      have e1 : (((A.length : Nat) : Int)).toNat = A.length := Int.toNat_natCast _
      have e2 : ((A.length : Int) + (c.ws.length : Int)).toNat - A.length = c.ws.length := by omega
      rw [e1, e2, ew, List.drop_left, List.take_left]
    have l2 : ¬ (((W.map D.str).length : Nat) : Int) < (A.length : Int) + (c.ws.length : Int) := by
      rw [List.length_map, eL]
      omega
    simp only [evS, evE, evEs, evAn, evOr, wo_outs, wo_nx, wo_rt, wr_bind, wr_ok, wo_ite, wr_ite, wr_lift, wr_tru, someEx, List.length_cons, List.length_nil, List.getElem?_cons_zero, List.getElem?_cons_succ, List.set_cons_zero, List.set_cons_succ, ix_lst, Nat.zero_add, Nat.reduceAdd, slB, isNon, D.isStr, if_true, evSl, evCs, tg_n, tg_t2, tg_t3, tg_t4, Tg.slots, Tg.slotss, wipeE, wr_noexc, Option.map_some, Option.bind_some, reduceIte, len_lst, lt_int, decide_eq_true l1]
    refine ⟨trivial, ?_⟩
    rw [wo_cons]
    simp only [evS, evE, evEs, evAn, evOr, wo_outs, wo_nx, wo_rt, wr_bind, wr_ok, wo_ite, wr_ite, wr_lift, wr_tru, someEx, List.length_cons, List.length_nil, List.getElem?_cons_zero, List.getElem?_cons_succ, List.set_cons_zero, List.set_cons_succ, ix_lst, Nat.zero_add, Nat.reduceAdd, slB, isNon, D.isStr, if_true, evSl, evCs, tg_n, tg_t2, tg_t3, tg_t4, Tg.slots, Tg.slotss, wipeE, wr_noexc, Option.map_some, Option.bind_some, reduceIte, len_lst, add_int, ix, dget_ws co]
    rw [wo_cons]
    simp only [evS, evE, evEs, evAn, evOr, wo_outs, wo_nx, wo_rt, wr_bind, wr_ok, wo_ite, wr_ite, wr_lift, wr_tru, someEx, List.length_cons, List.length_nil, List.getElem?_cons_zero, List.getElem?_cons_succ, List.set_cons_zero, List.set_cons_succ, ix_lst, Nat.zero_add, Nat.reduceAdd, slB, isNon, D.isStr, if_true, evSl, evCs, tg_n, tg_t2, tg_t3, tg_t4, Tg.slots, Tg.slotss, wipeE, wr_noexc, Option.map_some, Option.bind_some, reduceIte, len_lst, add_int, gt_int, decide_eq_false l2, wo_nil, Bool.false_eq_true]
    rw [wo_cons]
    simp only [evS, evE, evEs, evAn, evOr, wo_outs, wo_nx, wo_rt, wr_bind, wr_ok, wo_ite, wr_ite, wr_lift, wr_tru, someEx, List.length_cons, List.length_nil, List.getElem?_cons_zero, List.getElem?_cons_succ, List.set_cons_zero, List.set_cons_succ, ix_lst, Nat.zero_add, Nat.reduceAdd, slB, isNon, D.isStr, if_true, evSl, evCs, tg_n, tg_t2, tg_t3, tg_t4, Tg.slots, Tg.slotss, wipeE, wr_noexc, Option.map_some, Option.bind_some, reduceIte, add_int, sl, ccond_ok h19 h4 h3 hg h15 hg' co]
    rw [if_pos (by rw [List.length_map, List.length_take, sizeLine_eq]; omega)]
    rw [wo_cons]
    simp only [evS, evE, evEs, evAn, evOr, wo_outs, wo_nx, wo_rt, wr_bind, wr_ok, wo_ite, wr_ite, wr_lift, wr_tru, someEx, List.length_cons, List.length_nil, List.getElem?_cons_zero, List.getElem?_cons_succ, List.set_cons_zero, List.set_cons_succ, ix_lst, Nat.zero_add, Nat.reduceAdd, slB, isNon, D.isStr, if_true, evSl, evCs, tg_n, tg_t2, tg_t3, tg_t4, Tg.slots, Tg.slotss, wipeE, wr_noexc, Option.map_some, Option.bind_some, reduceIte, add_int]
    rw [wo_cons]
    simp only [evS, evE, evEs, evAn, evOr, wo_outs, wo_nx, wo_rt, wr_bind, wr_ok, wo_ite, wr_ite, wr_lift, wr_tru, someEx, List.length_cons, List.length_nil, List.getElem?_cons_zero, List.getElem?_cons_succ, List.set_cons_zero, List.set_cons_succ, ix_lst, Nat.zero_add, Nat.reduceAdd, slB, isNon, D.isStr, if_true, evSl, evCs, tg_n, tg_t2, tg_t3, tg_t4, Tg.slots, Tg.slotss, wipeE, wr_noexc, Option.map_some, Option.bind_some, reduceIte, wo_nil]
    refine ⟨trivial, some (.int (c.ws.length : Nat)), ?_⟩
    have e3 : (cs.take (i + 1)).map Cn.d = (cs.take i).map Cn.d ++ [c.d] := by
      rw [List.take_add_one, hc]
      simp only [Option.toList_some, List.map_append, List.map_cons, List.map_nil]
    have e4 : (((wsOf (cs.take (i + 1))).length : Nat) : Int) = (A.length : Int) + (c.ws.length : Int) := by
      rw [wsOf_succ hc, hA, List.length_append]
      omega
    rw [e3, e4]
  · subst es ee
    have l1 : ¬ (((wsOf (cs.take cs.length)).length : Nat) : Int) < (((wsOf cs).map D.str).length : Nat) := by
      rw [List.take_length, List.length_map]
      omega
    simp only [evS, evE, evEs, evAn, evOr, wo_outs, wo_nx, wo_rt, wr_bind, wr_ok, wo_ite, wr_ite, wr_lift, wr_tru, someEx, List.length_cons, List.length_nil, List.getElem?_cons_zero, List.getElem?_cons_succ, List.set_cons_zero, List.set_cons_succ, ix_lst, Nat.zero_add, Nat.reduceAdd, slB, isNon, D.isStr, if_true, evSl, evCs, tg_n, tg_t2, tg_t3, tg_t4, Tg.slots, Tg.slotss, wipeE, wr_noexc, Option.map_some, Option.bind_some, reduceIte, len_lst, lt_int, decide_eq_false l1]
    refine ⟨trivial, ?_⟩
    rw [wo_cons]
    simp only [evS, evE, evEs, evAn, evOr, wo_outs, wo_nx, wo_rt, wr_bind, wr_ok, wo_ite, wr_ite, wr_lift, wr_tru, someEx, List.length_cons, List.length_nil, List.getElem?_cons_zero, List.getElem?_cons_succ, List.set_cons_zero, List.set_cons_succ, ix_lst, Nat.zero_add, Nat.reduceAdd, slB, isNon, D.isStr, if_true, evSl, evCs, tg_n, tg_t2, tg_t3, tg_t4, Tg.slots, Tg.slotss, wipeE, wr_noexc, Option.map_some, Option.bind_some, reduceIte, evTupL, List.take_length]
    exact ⟨trivial, trivial⟩
/-- signs beyond the blank -/
def vis (w : Str) : Prop := ∀ c ∈ TL.tl w, 32 < c
theorem vis_nmem {w : Str} (h : vis w) {c : Nat} (hc : c ≤ 32) : c ∉ TL.tl w := fun z => by
  have := h c z
  omega
theorem vis_name {w : Str} (h : Name w) : vis w := fun c hc => by
  have := h.2.2 c hc
  omega
theorem vis_sT {m : Int} (h : 0 ≤ m) : vis (sT m) := fun c hc => by
  rw [tl_sT h] at hc
  have := TL.numL_digits _ c hc
  omega
theorem vis_app {x y : Str} (h : vis x) (i : vis y) : vis (x ++ y) := fun c hc => by
  rw [TL.tl_append] at hc
  exact (List.mem_append.mp hc).elim (h c) (i c)
theorem vis_clT {x : Int} (h0 : 0 ≤ x) (h1 : x < 1440) : vis (clT x) := by
  have t : ∀ {m : Int}, 0 ≤ m → m < 100 → vis (two m) := fun a b c hc => by
    have := (two_at a b).2.1 c hc
    omega
  exact vis_app (vis_app (t (by omega) (by omega)) fun c hc => by
    have hc : c ∈ [58] := hc
    rw [List.mem_singleton.mp hc]
    decide) (t (by omega) (by omega))
theorem vis_days {ns : List Int} (h : ∀ x ∈ ns, 0 ≤ x ∧ x ≤ 6) : vis (daysT ns) := fun c hc => by
  unfold daysT at hc
  rw [tl_joinE, show TL.tl (Str.ofString "") = [] from rfl, joinL_nil] at hc
  obtain ⟨l, hl, hc⟩ := List.mem_flatten.mp hc
  obtain ⟨w, hw, rfl⟩ := List.mem_map.mp hl
  obtain ⟨x, hx, rfl⟩ := List.mem_map.mp hw
  exact vis_sT (h x hx).1 c hc
theorem vis_lit : ∀ w ∈ (["feast", "days", "clock", "day", "week", "rule", "rate", "base"] : List Str), ∀ c ∈ TL.tl w, 32 < c := by decide +kernel
theorem vis_ws {c : Cn} (h : c.Ok) : ∀ w ∈ c.ws, vis w := by
  intro w hw
  cases c with
  | feast =>
    rw [List.mem_singleton.mp hw]
    exact vis_lit _ (by simp)
  | days ns =>
    have : w = "days" ∨ w = daysT ns := by simpa [Cn.ws] using hw
    rcases this with e | e <;> subst e
    · exact vis_lit _ (by simp)
    · exact vis_days h.2.2.2
  | clock a b =>
    have : w = "clock" ∨ w = clT a ∨ w = clT b := by simpa [Cn.ws] using hw
    rcases this with e | e | e <;> subst e
    · exact vis_lit _ (by simp)
    · exact vis_clT h.1 h.2.1
    · exact vis_clT h.2.2.1 h.2.2.2.1
  | num v m =>
    obtain ⟨_, _, m0, _⟩ := num_ne h
    have : w = v ∨ w = sT m := by simpa [Cn.ws] using hw
    rcases this with e | e
    · subst e
      rcases h with ⟨e, _⟩ | ⟨e, _⟩ <;> subst e <;> exact vis_lit _ (by simp)
    · subst e
      exact vis_sT (by omega)
theorem vis_wsOf {cs : List Cn} (h : ∀ c ∈ cs, c.Ok) : ∀ w ∈ wsOf cs, vis w := fun w hw => by
  obtain ⟨c, hc, hw⟩ := List.mem_flatMap.mp hw
  exact vis_ws (h c hc) w hw
/-- a rule whose text is read back -/
structure RlG (r : Rl) : Prop where
  ok : r.Ok
  nm : Name r.name
  so : Name r.sort
theorem RlG.t {r : Rl} (h : RlG r) : RlT r := ⟨h.ok, h.nm.2.1, h.so.2.1⟩
theorem RlG.vis {r : Rl} (h : RlG r) : ∀ w ∈ r.ws ++ wsOf r.cs, vis w := fun w hw => by
  rcases List.mem_append.mp hw with q | q
  · have : w = "rule" ∨ w = r.name ∨ w = sT r.rank ∨ w = r.sort := by simpa [Rl.ws] using q
    rcases this with e | e | e | e <;> subst e
    · exact vis_lit _ (by simp)
    · exact vis_name h.nm
    · exact vis_sT h.ok.1
    · exact vis_name h.so
  · exact vis_wsOf h.ok.2.2.1 w q
theorem RlG.split {r : Rl} (h : RlG r) : evMe .split (.str r.row) [.str " "] = some (.lst ((r.ws ++ wsOf r.cs).map .str)) :=
  split_ev (c := 32) rfl (by decide) (by simp [Rl.ws]) (fun w hw => vis_nmem (h.vis w hw) (Nat.le_refl _)) (Nat.le_trans (Nat.add_le_add_right h.t.row_len 2) (by decide))
def ruleByF (k9 k15 k17 k20 : Nat) : Fn := ⟨1, 3, false, [
  .asg 1 (.me .split (.v 0) [.str " "]),
  .iff (.orr [.cmp .ne (.ix (.v 1) (.int 0)) (.str "rule"), .cmp .lt (.bi .len [.v 1]) (.int 4)]) [.ret (.non)] [],
  .asg 2 (.tup [.ix (.v 1) (.int 1), .call k15 [.ix (.v 1) (.int 2)], .ix (.v 1) (.int 3), .call k20 [.sl (.v 1) (.int 4) (.non)]]),
  .iff (.orr [.no (.call k9 [.v 2]), .cmp .ne (.call k17 [.v 2]) (.v 0)]) [.ret (.non)] [],
  .ret (.v 2)]⟩
theorem ruleBy_go {P : Prog} {n k k9 k15 k17 k20 : Nat} {r : Rl} {S : Sto} (hf : P.fns[k]? = some (ruleByF k9 k15 k17 k20)) (h : RlG r) (e15 : run P n k15 [.str (sT r.rank)] S = .ok (.int r.rank) S) (e20 : run P n k20 [.lst ((wsOf r.cs).map .str)] S = .ok (.tup (r.cs.map Cn.d)) S)
    (e9 : run P n k9 [r.d] S = .ok (.bl true) S) (e17 : run P n k17 [r.d] S = .ok (.str r.row) S) : run P (n + 1) k [.str r.row] S = .ok r.d S := by
  refine run_eq hf rfl ?_
  show Wo (evSs P.gl (run P n) (ruleByF k9 k15 k17 k20).body [some (.str r.row), none, none] S) _ _
  unfold ruleByF
  dsimp only
  rw [wo_cons]
  simp only [evS, evE, evEs, evAn, evOr, wo_outs, wo_nx, wo_rt, wr_bind, wr_ok, wo_ite, wr_ite, wr_lift, wr_tru, someEx, List.length_cons, List.length_nil, List.getElem?_cons_zero, List.getElem?_cons_succ, List.set_cons_zero, List.set_cons_succ, ix_lst, Nat.zero_add, Nat.reduceAdd, slB, isNon, D.isStr, if_true, evSl, evCs, tg_n, tg_t2, tg_t3, tg_t4, Tg.slots, Tg.slotss, wipeE, wr_noexc, Option.map_some, Option.bind_some, reduceIte, h.split]
  rw [wo_cons]
  have ew : (r.ws ++ wsOf r.cs).map D.str = .str "rule" :: .str r.name :: .str (sT r.rank) :: .str r.sort :: (wsOf r.cs).map .str := rfl
  rw [ew]
  have wr : (Str.ofString "rule" == Str.ofString "rule") = true := rfl
  have l4 : ¬ (((D.str "rule" :: .str r.name :: .str (sT r.rank) :: .str r.sort :: (wsOf r.cs).map .str).length : Nat) : Int) < 4 := by
    simp only [List.length_cons]
    omega
  simp only [evS, evE, evEs, evOr, wo_outs, wr_bind, wr_ok, wr_lift, wr_tru, someEx, List.getElem?_cons_zero, List.getElem?_cons_succ, List.set_cons_zero, List.set_cons_succ, ix_lst, at0, ne_str, wr, Bool.not_true, len_lst, lt_int, decide_eq_false l4, wo_nil, Bool.false_eq_true, if_false, reduceIte, wo_ite]
  rw [wo_cons]
  have c4 : cutD (D.str "rule" :: .str r.name :: .str (sT r.rank) :: .str r.sort :: (wsOf r.cs).map .str) (some 4) none = (wsOf r.cs).map .str := cut_from _ (by decide)
  simp only [evS, evE, evEs, evAn, evOr, wo_outs, wo_nx, wo_rt, wr_bind, wr_ok, wo_ite, wr_ite, wr_lift, wr_tru, someEx, List.length_cons, List.length_nil, List.getElem?_cons_zero, List.getElem?_cons_succ, List.set_cons_zero, List.set_cons_succ, ix_lst, Nat.zero_add, Nat.reduceAdd, slB, isNon, D.isStr, if_true, evSl, evCs, tg_n, tg_t2, tg_t3, tg_t4, Tg.slots, Tg.slotss, wipeE, wr_noexc, Option.map_some, Option.bind_some, reduceIte, at1, at2, at3, e15, c4, e20]
  rw [wo_cons]
  have ed : D.tup [.str r.name, .int r.rank, .str r.sort, .tup (r.cs.map Cn.d)] = r.d := rfl
  simp only [evS, evE, evEs, evAn, evOr, wo_outs, wo_nx, wo_rt, wr_bind, wr_ok, wo_ite, wr_ite, wr_lift, wr_tru, someEx, List.length_cons, List.length_nil, List.getElem?_cons_zero, List.getElem?_cons_succ, List.set_cons_zero, List.set_cons_succ, ix_lst, Nat.zero_add, Nat.reduceAdd, slB, isNon, D.isStr, if_true, evSl, evCs, tg_n, tg_t2, tg_t3, tg_t4, Tg.slots, Tg.slotss, wipeE, wr_noexc, Option.map_some, Option.bind_some, reduceIte, ed, e9, Bool.not_true, e17, ne_str, beq_self_eq_true, wo_nil, Bool.false_eq_true]
  rw [wo_cons]
  simp only [evS, evE, evEs, evAn, evOr, wo_outs, wo_nx, wo_rt, wr_bind, wr_ok, wo_ite, wr_ite, wr_lift, wr_tru, someEx, List.length_cons, List.length_nil, List.getElem?_cons_zero, List.getElem?_cons_succ, List.set_cons_zero, List.set_cons_succ, ix_lst, Nat.zero_add, Nat.reduceAdd, slB, isNon, D.isStr, if_true, evSl, evCs, tg_n, tg_t2, tg_t3, tg_t4, Tg.slots, Tg.slotss, wipeE, wr_noexc, Option.map_some, Option.bind_some, reduceIte]
  exact ⟨trivial, trivial⟩
def rateByF (k5 k15 g : Nat) : Fn := ⟨1, 3, true, [
  .asg 1 (.me .split (.v 0) [.str " "]),
  .iff (.orr [.cmp .ne (.bi .len [.v 1]) (.int 3), .cmp .ne (.ix (.v 1) (.int 0)) (.str "rate"), .no (.call k5 [.ix (.v 1) (.int 1)])]) [.ret (.non)] [],
  .asg 2 (.call k15 [.ix (.v 1) (.int 2)]),
  .iff (.orr [.isN (.v 2), .cmp .gt (.v 2) (.g g)]) [.ret (.non)] [],
  .frz [2],
  .ret (.tup [.ix (.v 1) (.int 1), .v 2])]⟩
theorem rateT_join (p : Str × Int) : rateT p = Txt.join " " ["rate", p.1, sT p.2] := by
  refine TL.ext_tl ?_
  rw [tl_joinE]
  unfold rateT
  simp only [TL.tl_append, List.map_cons, List.map_nil, TL.joinL, List.append_assoc]
  rfl
theorem base_join (w : Str) : (Str.ofString "base ") ++ w = Txt.join " " ["base", w] := by
  refine TL.ext_tl ?_
  rw [tl_joinE]
  simp only [TL.tl_append, List.map_cons, List.map_nil, TL.joinL, List.append_assoc]
  rfl
theorem rateBy_ok {P : Prog} {n k k5 k15 g g' g1 g2 : Nat} {p : Str × Int} {S : Sto} (hf : P.fns[k]? = some (rateByF k5 k15 g)) (hg : P.gl[g]? = some (.int 1000000)) (h5 : P.fns[k5]? = some (nameF g1 g2)) (hg1 : P.gl[g1]? = some (.int 8)) (hg2 : P.gl[g2]? = some (.str letters)) (h15 : P.fns[k15]? = some (numF g')) (hg' : P.gl[g']? = some (.str figs))
    (ok : Name p.1 ∧ 0 ≤ p.2 ∧ p.2 ≤ 1000000) : run P (n + 2) k [.str (rateT p)] S = .ok (rdD p) S := by
  obtain ⟨nm, p0, p1⟩ := ok
  refine run_eq hf rfl ?_
  show Wo (evSs P.gl (run P (n + 1)) (rateByF k5 k15 g).body [some (.str (rateT p)), none, none] S) _ _
  unfold rateByF
  dsimp only
  have sp : evMe .split (.str (rateT p)) [.str " "] = some (.lst [.str "rate", .str p.1, .str (sT p.2)]) := by
    have l := rate_len (p := p) ⟨nm.2.1, p0, p1⟩
    rw [rateT_join] at l ⊢
    exact split_ev (c := 32) (ws := ["rate", p.1, sT p.2]) rfl (by decide) (by simp) (fun w hw => by
      have : w = "rate" ∨ w = p.1 ∨ w = sT p.2 := by simpa using hw
      rcases this with e | e | e <;> subst e
      · exact vis_nmem (vis_lit _ (by simp)) (Nat.le_refl _)
      · exact vis_nmem (vis_name nm) (Nat.le_refl _)
      · exact vis_nmem (vis_sT p0) (Nat.le_refl _)) (by rw [sizeLine_eq]; omega)
  rw [wo_cons]
  simp only [evS, evE, evEs, evAn, evOr, wo_outs, wo_nx, wo_rt, wr_bind, wr_ok, wo_ite, wr_ite, wr_lift, wr_tru, someEx, List.length_cons, List.length_nil, List.getElem?_cons_zero, List.getElem?_cons_succ, List.set_cons_zero, List.set_cons_succ, ix_lst, Nat.zero_add, Nat.reduceAdd, slB, isNon, D.isStr, if_true, evSl, evCs, tg_n, tg_t2, tg_t3, tg_t4, Tg.slots, Tg.slotss, wipeE, wr_noexc, Option.map_some, Option.bind_some, reduceIte, sp]
  rw [wo_cons]
  have e3 : ((3 : Nat) : Int) = 3 := rfl
  have wr : (Str.ofString "rate" == Str.ofString "rate") = true := rfl
  simp only [evS, evE, evEs, evAn, evOr, wo_outs, wo_nx, wo_rt, wr_bind, wr_ok, wo_ite, wr_ite, wr_lift, wr_tru, someEx, List.length_cons, List.length_nil, List.getElem?_cons_zero, List.getElem?_cons_succ, List.set_cons_zero, List.set_cons_succ, ix_lst, Nat.zero_add, Nat.reduceAdd, slB, isNon, D.isStr, if_true, evSl, evCs, tg_n, tg_t2, tg_t3, tg_t4, Tg.slots, Tg.slotss, wipeE, wr_noexc, Option.map_some, Option.bind_some, reduceIte, len_lst, ne_int, e3, beq_self_eq_true, Bool.not_true, at0, at1, ne_str, wr, name_ok h5 hg1 hg2 nm, wo_nil, Bool.false_eq_true]
  rw [wo_cons]
  simp only [evS, evE, evEs, evAn, evOr, wo_outs, wo_nx, wo_rt, wr_bind, wr_ok, wo_ite, wr_ite, wr_lift, wr_tru, someEx, List.length_cons, List.length_nil, List.getElem?_cons_zero, List.getElem?_cons_succ, List.set_cons_zero, List.set_cons_succ, ix_lst, Nat.zero_add, Nat.reduceAdd, slB, isNon, D.isStr, if_true, evSl, evCs, tg_n, tg_t2, tg_t3, tg_t4, Tg.slots, Tg.slotss, wipeE, wr_noexc, Option.map_some, Option.bind_some, reduceIte, at2, num_ok h15 hg' p0 (show p.2 < 10 ^ 7 by omega)]
  rw [wo_cons]
  simp only [evS, evE, evEs, evAn, evOr, wo_outs, wo_nx, wo_rt, wr_bind, wr_ok, wo_ite, wr_ite, wr_lift, wr_tru, someEx, List.length_cons, List.length_nil, List.getElem?_cons_zero, List.getElem?_cons_succ, List.set_cons_zero, List.set_cons_succ, ix_lst, Nat.zero_add, Nat.reduceAdd, slB, isNon, D.isStr, if_true, evSl, evCs, tg_n, tg_t2, tg_t3, tg_t4, Tg.slots, Tg.slotss, wipeE, wr_noexc, Option.map_some, Option.bind_some, reduceIte, D.isNon, hg, gt_int, decide_eq_false (show ¬ (1000000 : Int) < p.2 by omega), wo_nil, Bool.false_eq_true]
  rw [wo_cons]
  simp only [evS, evE, evEs, evAn, evOr, wo_outs, wo_nx, wo_rt, wr_bind, wr_ok, wo_ite, wr_ite, wr_lift, wr_tru, someEx, List.length_cons, List.length_nil, List.getElem?_cons_zero, List.getElem?_cons_succ, List.set_cons_zero, List.set_cons_succ, ix_lst, Nat.zero_add, Nat.reduceAdd, slB, isNon, D.isStr, if_true, evSl, evCs, tg_n, tg_t2, tg_t3, tg_t4, Tg.slots, Tg.slotss, wipeE, wr_noexc, Option.map_some, Option.bind_some, reduceIte]
  rw [wo_cons]
  simp only [evS, evE, evEs, evAn, evOr, wo_outs, wo_nx, wo_rt, wr_bind, wr_ok, wo_ite, wr_ite, wr_lift, wr_tru, someEx, List.length_cons, List.length_nil, List.getElem?_cons_zero, List.getElem?_cons_succ, List.set_cons_zero, List.set_cons_succ, ix_lst, Nat.zero_add, Nat.reduceAdd, slB, isNon, D.isStr, if_true, evSl, evCs, tg_n, tg_t2, tg_t3, tg_t4, Tg.slots, Tg.slotss, wipeE, wr_noexc, Option.map_some, Option.bind_some, reduceIte, at1]
  exact ⟨rfl, trivial⟩
theorem rateBy_base {P : Prog} {n k k5 k15 g : Nat} {w : Str} {S : Sto} (hf : P.fns[k]? = some (rateByF k5 k15 g)) (nm : Name w) : run P (n + 1) k [.str ("base " ++ w)] S = .ok .non S := by
  refine run_eq hf rfl ?_
  show Wo (evSs P.gl (run P n) (rateByF k5 k15 g).body [some (.str ("base " ++ w)), none, none] S) _ _
  unfold rateByF
  dsimp only
  have sp : evMe .split (.str ("base " ++ w)) [.str " "] = some (.lst [.str "base", .str w]) := by
    have l : ((Str.ofString "base ") ++ w).length ≤ 13 := by
      rw [Str.length_append]
      have b : (Str.ofString "base ").length = 5 := rfl
      have := nm.2.1
      omega
    rw [base_join] at l ⊢
    exact split_ev (c := 32) (ws := ["base", w]) rfl (by decide) (by simp) (fun v hv => by
      have : v = "base" ∨ v = w := by simpa using hv
      rcases this with e | e <;> subst e
      · exact vis_nmem (vis_lit _ (by simp)) (Nat.le_refl _)
      · exact vis_nmem (vis_name nm) (Nat.le_refl _)) (by rw [sizeLine_eq]; omega)
  rw [wo_cons]
  simp only [evS, evE, evEs, evAn, evOr, wo_outs, wo_nx, wo_rt, wr_bind, wr_ok, wo_ite, wr_ite, wr_lift, wr_tru, someEx, List.length_cons, List.length_nil, List.getElem?_cons_zero, List.getElem?_cons_succ, List.set_cons_zero, List.set_cons_succ, ix_lst, Nat.zero_add, Nat.reduceAdd, slB, isNon, D.isStr, if_true, evSl, evCs, tg_n, tg_t2, tg_t3, tg_t4, Tg.slots, Tg.slotss, wipeE, wr_noexc, Option.map_some, Option.bind_some, reduceIte, sp]
  rw [wo_cons]
  have e3 : (((2 : Nat) : Int) == 3) = false := rfl
  simp only [evS, evE, evEs, evAn, evOr, wo_outs, wo_nx, wo_rt, wr_bind, wr_ok, wo_ite, wr_ite, wr_lift, wr_tru, someEx, List.length_cons, List.length_nil, List.getElem?_cons_zero, List.getElem?_cons_succ, List.set_cons_zero, List.set_cons_succ, ix_lst, Nat.zero_add, Nat.reduceAdd, slB, isNon, D.isStr, if_true, evSl, evCs, tg_n, tg_t2, tg_t3, tg_t4, Tg.slots, Tg.slotss, wipeE, wr_noexc, Option.map_some, Option.bind_some, reduceIte, len_lst, ne_int, e3, Bool.not_false]
  rw [wo_cons]
  simp only [evS, evE, evEs, evAn, evOr, wo_outs, wo_nx, wo_rt, wr_bind, wr_ok, wo_ite, wr_ite, wr_lift, wr_tru, someEx, List.length_cons, List.length_nil, List.getElem?_cons_zero, List.getElem?_cons_succ, List.set_cons_zero, List.set_cons_succ, ix_lst, Nat.zero_add, Nat.reduceAdd, slB, isNon, D.isStr, if_true, evSl, evCs, tg_n, tg_t2, tg_t3, tg_t4, Tg.slots, Tg.slotss, wipeE, wr_noexc, Option.map_some, Option.bind_some, reduceIte]
  exact ⟨trivial, trivial⟩
end VE

set_option Elab.async false
set_option linter.all false
set_option maxRecDepth 100000
set_option maxHeartbeats 4000000
/-! ZL, part 6: the reader of books. -/
namespace VE
open PySem PySem.Spec PyProof.Rows L2

theorem run_to {P : Prog} {n f : Nat} {F : Fn} {ds : List D} {S S2 : Sto} {x : D} (hf : P.fns[f]? = some F) (hl : ds.length = F.np) (h : Wo (evSs P.gl (run P n) F.body (startE F.nl ds) S) (fun _ _ => False) fun d S' => d = x ∧ S' = S2) : run P (n + 1) f ds S = .ok x S2 :=
  wr_eq (wr_run hf hl (wo_mono h (fun _ _ z => z.elim) fun _ _ z => z))
theorem run_to0 {P : Prog} {n f : Nat} {F : Fn} {ds : List D} {S S2 : Sto} (hf : P.fns[f]? = some F) (hl : ds.length = F.np) (h : Wo (evSs P.gl (run P n) F.body (startE F.nl ds) S) (fun _ S' => S' = S2) fun _ _ => False) : run P (n + 1) f ds S = .ok .non S2 :=
  wr_eq (wr_run hf hl (wo_mono h (fun _ _ z => ⟨rfl, z⟩) fun _ _ z => z.elim))
abbrev fsR (b : D) (rs : List (Str × Int)) (us : List Rl) : List (Str × D) := [("base", b), ("rates", .lst (rs.map rdD)), ("rules", .lst (us.map Rl.d))]
section
variable {S0 : Sto} {fs fs' : List (Str × D)} {env : Env} {x : Option D} {f : Str}
theorem at_new (c : Cell) : (S0 ++ [c])[S0.length]? = some c := by
  rw [List.getElem?_append_right (Nat.le_refl _), Nat.sub_self]
  rfl
theorem set_new (c c' : Cell) : (S0 ++ [c]).set S0.length c' = S0 ++ [c'] := by
  rw [List.set_append_right _ _ (Nat.le_refl _), Nat.sub_self]
  rfl
theorem ins0 : insOf (some (.obj S0.length) :: env) (S0 ++ [.ins 0 fs]) 0 0 = some (S0.length, fs) := by
  unfold insOf
  rw [List.getElem?_cons_zero]
  dsimp only
  rw [at_new]
  rfl
theorem ins1 : insOf (x :: some (.obj S0.length) :: env) (S0 ++ [.ins 0 fs]) 0 1 = some (S0.length, fs) := by
  unfold insOf
  rw [List.getElem?_cons_succ, List.getElem?_cons_zero]
  dsimp only
  rw [at_new]
  rfl
theorem fld0 : fldOf (some (.obj S0.length) :: env) (S0 ++ [.ins 0 fs]) 0 0 f = fs.lookup f := by
  unfold fldOf
  rw [ins0]
  rfl
theorem fld1 : fldOf (x :: some (.obj S0.length) :: env) (S0 ++ [.ins 0 fs]) 0 1 f = fs.lookup f := by
  unfold fldOf
  rw [ins1]
  rfl
end
section
variable {b : D} {rs : List (Str × Int)} {us : List Rl}
theorem lk1 : (fsR b rs us).lookup (Str.ofString "base") = some b := rfl
theorem lk2 : (fsR b rs us).lookup (Str.ofString "rates") = some (.lst (rs.map rdD)) := rfl
theorem lk3 : (fsR b rs us).lookup (Str.ofString "rules") = some (.lst (us.map Rl.d)) := rfl
theorem lk4 : (fsR b rs us).lookup (Str.ofString "has_sort") = none := rfl
theorem lk5 : (fsR b rs us).lookup (Str.ofString "take_rate") = none := rfl
theorem lk6 : (fsR b rs us).lookup (Str.ofString "take_base") = none := rfl
theorem lk7 : (fsR b rs us).lookup (Str.ofString "take_rule") = none := rfl
theorem lk8 : (fsR b rs us).lookup (Str.ofString "take") = none := rfl
theorem pt1 (d : D) : putD (Str.ofString "base") d (fsR b rs us) = fsR d rs us := rfl
theorem pt2 (p : Str × Int) : putD (Str.ofString "rates") (.lst (rs.map rdD ++ [rdD p])) (fsR b rs us) = fsR b (rs ++ [p]) us := by
  rw [show rs.map rdD ++ [rdD p] = (rs ++ [p]).map rdD by rw [List.map_append]; rfl]
  rfl
theorem pt3 (r : Rl) : putD (Str.ofString "rules") (.lst (us.map Rl.d ++ [r.d])) (fsR b rs us) = fsR b rs (us ++ [r]) := by
  rw [show us.map Rl.d ++ [r.d] = (us ++ [r]).map Rl.d by rw [List.map_append]; rfl]
  rfl
end
def initF : Fn := ⟨1, 1, true, [
  .fset 0 0 "base" false (.non),
  .fset 0 0 "rates" true (.lst []),
  .fset 0 0 "rules" true (.lst [])]⟩
theorem init_ok {P : Prog} {n k : Nat} {S0 : Sto} (hf : P.fns[k]? = some initF) : run P (n + 1) k [.obj S0.length] (S0 ++ [.ins 0 []]) = .ok .non (S0 ++ [.ins 0 (fsR .non [] [])]) := by
  refine run_to0 hf rfl ?_
  show Wo (evSs P.gl (run P n) initF.body [some (.obj S0.length)] (S0 ++ [.ins 0 []])) _ _
  unfold initF
  dsimp only
  rw [wo_cons]
  simp only [evS, evE, evEs, evAn, evOr, wo_outs, wo_nx, wo_rt, wr_bind, wr_ok, wo_ite, wr_ite, wr_lift, wr_tru, someEx, List.length_cons, List.length_nil, List.getElem?_cons_zero, List.getElem?_cons_succ, List.set_cons_zero, List.set_cons_succ, ix_lst, Nat.zero_add, Nat.reduceAdd, slB, isNon, D.isStr, if_true, evSl, evCs, tg_n, tg_t2, tg_t3, tg_t4, Tg.slots, Tg.slotss, wipeE, wr_noexc, Option.map_some, Option.bind_some, reduceIte, ins0, D.isMut, Bool.false_eq_true, false_and, List.length_nil, show (0 : Nat) < 900 by decide, set_new]
  rw [wo_cons]
  simp only [evS, evE, evEs, evAn, evOr, wo_outs, wo_nx, wo_rt, wr_bind, wr_ok, wo_ite, wr_ite, wr_lift, wr_tru, someEx, List.length_cons, List.length_nil, List.getElem?_cons_zero, List.getElem?_cons_succ, List.set_cons_zero, List.set_cons_succ, ix_lst, Nat.zero_add, Nat.reduceAdd, slB, isNon, D.isStr, if_true, evSl, evCs, tg_n, tg_t2, tg_t3, tg_t4, Tg.slots, Tg.slotss, wipeE, wr_noexc, Option.map_some, Option.bind_some, reduceIte, ins0, putD, D.isMut, Bool.true_eq_false, and_false, List.length_cons, List.length_nil, show 0 + 1 < 900 by decide, set_new]
  rw [wo_cons]
  simp only [evS, evE, evEs, evAn, evOr, wo_outs, wo_nx, wo_rt, wr_bind, wr_ok, wo_ite, wr_ite, wr_lift, wr_tru, someEx, List.length_cons, List.length_nil, List.getElem?_cons_zero, List.getElem?_cons_succ, List.set_cons_zero, List.set_cons_succ, ix_lst, Nat.zero_add, Nat.reduceAdd, slB, isNon, D.isStr, if_true, evSl, evCs, tg_n, tg_t2, tg_t3, tg_t4, Tg.slots, Tg.slotss, wipeE, wr_noexc, Option.map_some, Option.bind_some, reduceIte, ins0, putD, D.isMut, Bool.true_eq_false, and_false, List.length_cons, List.length_nil, show 0 + 1 + 1 < 900 by decide, set_new, wo_nil]
  rfl
def hasF : Fn := ⟨2, 4, true, [
  .ret (.cmp .isin (.v 1) (.fcomp 0 0 "rates" (.t [.n 2, .n 3]) (.v 2)))]⟩
theorem has_ok {P : Prog} {n k : Nat} {S0 : Sto} {b : D} {rs : List (Str × Int)} {us : List Rl} {w : Str} (hf : P.fns[k]? = some hasF) (h : w ∈ rs.map (·.1)) : run P (n + 1) k [.obj S0.length, .str w] (S0 ++ [.ins 0 (fsR b rs us)]) = .ok (.bl true) (S0 ++ [.ins 0 (fsR b rs us)]) := by
  refine run_to hf rfl ?_
  show Wo (evSs P.gl (run P n) hasF.body [some (.obj S0.length), some (.str w), none, none] (S0 ++ [.ins 0 (fsR b rs us)])) _ _
  unfold hasF
  dsimp only
  rw [wo_cons]
  simp only [evS, evE, evEs, evAn, evOr, wo_outs, wo_nx, wo_rt, wr_bind, wr_ok, wo_ite, wr_ite, wr_lift, wr_tru, someEx, List.length_cons, List.length_nil, List.getElem?_cons_zero, List.getElem?_cons_succ, List.set_cons_zero, List.set_cons_succ, ix_lst, Nat.zero_add, Nat.reduceAdd, slB, isNon, D.isStr, if_true, evSl, evCs, tg_n, tg_t2, tg_t3, tg_t4, Tg.slots, Tg.slotss, wipeE, wr_noexc, Option.map_some, Option.bind_some, reduceIte, fld0, lk2]
  rw [compL_map (g := fun p => .str p.1) (fun p hp => by
    unfold rdD
    simp only [evS, evE, evEs, evAn, evOr, wo_outs, wo_nx, wo_rt, wr_bind, wr_ok, wo_ite, wr_ite, wr_lift, wr_tru, someEx, List.length_cons, List.length_nil, List.getElem?_cons_zero, List.getElem?_cons_succ, List.set_cons_zero, List.set_cons_succ, ix_lst, Nat.zero_add, Nat.reduceAdd, slB, isNon, D.isStr, if_true, evSl, evCs, tg_n, tg_t2, tg_t3, tg_t4, Tg.slots, Tg.slotss, wipeE, wr_noexc, Option.map_some, Option.bind_some, reduceIte, List.cons_append, List.nil_append, Res.ok_bind])]
  have e5 : (rs.map fun p => D.str p.1) = (rs.map (·.1)).map .str := by
    rw [List.map_map]
    rfl
  simp only [evS, evE, evEs, evAn, evOr, wo_outs, wo_nx, wo_rt, wr_bind, wr_ok, wo_ite, wr_ite, wr_lift, wr_tru, someEx, List.length_cons, List.length_nil, List.getElem?_cons_zero, List.getElem?_cons_succ, List.set_cons_zero, List.set_cons_succ, ix_lst, Nat.zero_add, Nat.reduceAdd, slB, isNon, D.isStr, if_true, evSl, evCs, tg_n, tg_t2, tg_t3, tg_t4, Tg.slots, Tg.slotss, wipeE, wr_noexc, Option.map_some, Option.bind_some, reduceIte, e5, isin_strs h]
  exact ⟨trivial, trivial⟩
theorem ne_lst0 {x : D} {xs : List D} (h : (D.lst (x :: xs)).nice = true) (hd : (D.lst (x :: xs)).dep ≤ 64) : evCmp .ne (.lst (x :: xs)) (.lst []) = some true := by
  obtain ⟨p, np⟩ := nice_pd h
  have dp := np.dp
  have e := np.pd
  show (evEq _ _).map (!·) = _
  unfold evEq
  have e2 : (D.lst []).pd = some (.list []) := rfl
  rw [e, e2]
  dsimp only
  rw [if_pos ⟨by omega, by decide⟩]
  simp only [D.pd, D.pds] at e
  cases q1 : x.pd with
  | none =>
    rw [q1] at e
    cases e
  | some y =>
    cases q2 : D.pds xs with
    | none =>
      rw [q1, q2] at e
      cases e
    | some ys =>
      rw [q1, q2] at e
      cases e
      rfl
theorem at_last (l : List D) (x : D) : atI (l ++ [x]) (-1) = some x := by
  unfold atI
  have e : ixN (l ++ [x]).length (-1) = some l.length := by
    have z : (l ++ [x]).length = l.length + 1 := by rw [List.length_append]; rfl
    rw [z]
    unfold ixN
    rw [if_neg (by decide), if_pos (by omega)]
    refine congrArg some ?_
    omega
  rw [e]
  show (l ++ [x])[l.length]? = _
  rw [List.getElem?_append_right (Nat.le_refl _), Nat.sub_self]
  rfl
theorem le_str (x y : Str) : evCmp .le (.str x) (.str y) = some (!decide (y.cps.toList < x.cps.toList)) := rfl
def takeRateF (k22 : Nat) : Fn := ⟨2, 3, true, [
  .asg 2 (.call k22 [.v 1]),
  .iff (.orr [.isN (.v 2), .an [.fne 0 0 "rates", .cmp .le (.ix (.v 2) (.int 0)) (.ix (.fix 0 0 "rates" (-1)) (.int 0))]]) [.ret (.bl false)] [],
  .frz [2],
  .fapp 0 0 "rates" 2,
  .ret (.bl true)]⟩
theorem nice_rates {rs : List (Str × Int)} (h : ∀ p ∈ rs, Name p.1 ∧ 0 ≤ p.2 ∧ p.2 ≤ 1000000) : (D.lst (rs.map rdD)).nice = true ∧ (D.lst (rs.map rdD)).dep ≤ 64 := by
  have rd : ∀ x ∈ rs.map rdD, x.nice = true ∧ x.dep ≤ 4 := fun x hx => by
    obtain ⟨p, hp, rfl⟩ := List.mem_map.mp hx
    obtain ⟨a, c, d⟩ := h p hp
    refine ⟨nice_tup fun y hy => ?_, (by show max 0 (max 0 0) + 1 ≤ 4; decide)⟩
    have : y = .str p.1 ∨ y = .int p.2 := by simpa using hy
    rcases this with e | e <;> subst e
    · exact nice_str a.sgn
    · exact nice_int (by omega)
  refine ⟨?_, ?_⟩
  · simp only [D.nice]
    exact nices_iff.mpr fun x hx => (rd x hx).1
  · have := deps_le (k := 4) (xs := rs.map rdD) fun x hx => (rd x hx).2
    show D.deps (rs.map rdD) + 1 ≤ 64
    omega
theorem takeRate_ok {P : Prog} {n k k22 : Nat} {S0 : Sto} {b : D} {rs : List (Str × Int)} {us : List Rl} {p : Str × Int} {row : Str} (hf : P.fns[k]? = some (takeRateF k22)) (hr : run P n k22 [.str row] (S0 ++ [.ins 0 (fsR b rs us)]) = .ok (rdD p) (S0 ++ [.ins 0 (fsR b rs us)]))
    (hs : ∀ q ∈ rs, Name q.1 ∧ 0 ≤ q.2 ∧ q.2 ≤ 1000000) (ls : rs.length ≤ 30) (up : ∀ q ∈ rs, q.1.cps.toList < p.1.cps.toList) : run P (n + 1) k [.obj S0.length, .str row] (S0 ++ [.ins 0 (fsR b rs us)]) = .ok (.bl true) (S0 ++ [.ins 0 (fsR b (rs ++ [p]) us)]) := by
  refine run_to hf rfl ?_
  show Wo (evSs P.gl (run P n) (takeRateF k22).body [some (.obj S0.length), some (.str row), none] (S0 ++ [.ins 0 (fsR b rs us)])) _ _
  unfold takeRateF
  dsimp only
  rw [wo_cons]
  simp only [evS, evE, evEs, evAn, evOr, wo_outs, wo_nx, wo_rt, wr_bind, wr_ok, wo_ite, wr_ite, wr_lift, wr_tru, someEx, List.length_cons, List.length_nil, List.getElem?_cons_zero, List.getElem?_cons_succ, List.set_cons_zero, List.set_cons_succ, ix_lst, Nat.zero_add, Nat.reduceAdd, slB, isNon, D.isStr, if_true, evSl, evCs, tg_n, tg_t2, tg_t3, tg_t4, Tg.slots, Tg.slotss, wipeE, wr_noexc, Option.map_some, Option.bind_some, reduceIte, hr]
  rw [wo_cons]
  have n0 : (rdD p).isNon = false := rfl
  have tail : Wo (evSs P.gl (run P n) [.frz [2], .fapp 0 0 "rates" 2, .ret (.bl true)] [some (.obj S0.length), some (.str row), some (rdD p)] (S0 ++ [.ins 0 (fsR b rs us)])) (fun _ _ => False) fun d S' => d = .bl true ∧ S' = S0 ++ [.ins 0 (fsR b (rs ++ [p]) us)] := by
    rw [wo_cons]
    simp only [evS, evE, evEs, evAn, evOr, wo_outs, wo_nx, wo_rt, wr_bind, wr_ok, wo_ite, wr_ite, wr_lift, wr_tru, someEx, List.length_cons, List.length_nil, List.getElem?_cons_zero, List.getElem?_cons_succ, List.set_cons_zero, List.set_cons_succ, ix_lst, Nat.zero_add, Nat.reduceAdd, slB, isNon, D.isStr, if_true, evSl, evCs, tg_n, tg_t2, tg_t3, tg_t4, Tg.slots, Tg.slotss, wipeE, wr_noexc, Option.map_some, Option.bind_some, reduceIte]
    rw [wo_cons]
    have lt : (rs.map rdD).length < sizeLine := by
      rw [List.length_map, sizeLine_eq]
      omega
    simp only [evS, evE, evEs, evAn, evOr, wo_outs, wo_nx, wo_rt, wr_bind, wr_ok, wo_ite, wr_ite, wr_lift, wr_tru, someEx, List.length_cons, List.length_nil, List.getElem?_cons_zero, List.getElem?_cons_succ, List.set_cons_zero, List.set_cons_succ, ix_lst, Nat.zero_add, Nat.reduceAdd, slB, isNon, D.isStr, if_true, evSl, evCs, tg_n, tg_t2, tg_t3, tg_t4, Tg.slots, Tg.slotss, wipeE, wr_noexc, Option.map_some, Option.bind_some, reduceIte, ins0, lk2, if_pos lt, pt2, set_new]
    rw [wo_cons]
    simp only [evS, evE, evEs, evAn, evOr, wo_outs, wo_nx, wo_rt, wr_bind, wr_ok, wo_ite, wr_ite, wr_lift, wr_tru, someEx, List.length_cons, List.length_nil, List.getElem?_cons_zero, List.getElem?_cons_succ, List.set_cons_zero, List.set_cons_succ, ix_lst, Nat.zero_add, Nat.reduceAdd, slB, isNon, D.isStr, if_true, evSl, evCs, tg_n, tg_t2, tg_t3, tg_t4, Tg.slots, Tg.slotss, wipeE, wr_noexc, Option.map_some, Option.bind_some, reduceIte]
    exact ⟨trivial, trivial⟩
  rcases List.eq_nil_or_concat rs with e | ⟨l, q, e⟩
  · subst e
    have e0 : evCmp .ne (.lst (([] : List (Str × Int)).map rdD)) (.lst []) = some false := rfl
    simp only [evS, evE, evEs, evAn, evOr, wo_outs, wo_nx, wo_rt, wr_bind, wr_ok, wo_ite, wr_ite, wr_lift, wr_tru, someEx, List.length_cons, List.length_nil, List.getElem?_cons_zero, List.getElem?_cons_succ, List.set_cons_zero, List.set_cons_succ, ix_lst, Nat.zero_add, Nat.reduceAdd, slB, isNon, D.isStr, if_true, evSl, evCs, tg_n, tg_t2, tg_t3, tg_t4, Tg.slots, Tg.slotss, wipeE, wr_noexc, Option.map_some, Option.bind_some, reduceIte, n0, fld0, lk2, e0, wo_nil, Bool.false_eq_true]
    exact tail
  · have e : rs = l ++ [q] := by rw [e, List.concat_eq_append]
    have e0 : evCmp .ne (.lst (rs.map rdD)) (.lst []) = some true := by
      obtain ⟨nc, dp⟩ := nice_rates hs
      cases hrs : rs with
      | nil =>
        rw [hrs] at e
        exact absurd e (by simp)
      | cons y t =>
        rw [hrs] at nc dp
        exact ne_lst0 nc dp
    have e1 : atI (rs.map rdD) (-1) = some (rdD q) := by
      rw [e, List.map_append]
      exact at_last _ _
    have e2 := up q (by rw [e]; exact List.mem_append_right _ (List.mem_singleton.mpr rfl))
    have E1 : rdD p = .tup [.str p.1, .int p.2] := rfl
    have E2 : rdD q = .tup [.str q.1, .int q.2] := rfl
    simp only [evS, evE, evEs, evAn, evOr, wo_outs, wo_nx, wo_rt, wr_bind, wr_ok, wo_ite, wr_ite, wr_lift, wr_tru, someEx, List.length_cons, List.length_nil, List.getElem?_cons_zero, List.getElem?_cons_succ, List.set_cons_zero, List.set_cons_succ, ix_lst, Nat.zero_add, Nat.reduceAdd, slB, isNon, D.isStr, if_true, evSl, evCs, tg_n, tg_t2, tg_t3, tg_t4, Tg.slots, Tg.slotss, wipeE, wr_noexc, Option.map_some, Option.bind_some, reduceIte, E1, E2, D.isNon, fld0, lk2, e0, e1, le_str, decide_eq_true e2, Bool.not_true, wo_nil, Bool.false_eq_true, ix_tup, at0]
    exact tail
theorem takeRate_no {P : Prog} {n k k22 : Nat} {S0 : Sto} {fs : List (Str × D)} {row : Str} (hf : P.fns[k]? = some (takeRateF k22)) (hr : run P n k22 [.str row] (S0 ++ [.ins 0 fs]) = .ok .non (S0 ++ [.ins 0 fs])) : run P (n + 1) k [.obj S0.length, .str row] (S0 ++ [.ins 0 fs]) = .ok (.bl false) (S0 ++ [.ins 0 fs]) := by
  refine run_to hf rfl ?_
  show Wo (evSs P.gl (run P n) (takeRateF k22).body [some (.obj S0.length), some (.str row), none] (S0 ++ [.ins 0 fs])) _ _
  unfold takeRateF
  dsimp only
  rw [wo_cons]
  simp only [evS, evE, evEs, evAn, evOr, wo_outs, wo_nx, wo_rt, wr_bind, wr_ok, wo_ite, wr_ite, wr_lift, wr_tru, someEx, List.length_cons, List.length_nil, List.getElem?_cons_zero, List.getElem?_cons_succ, List.set_cons_zero, List.set_cons_succ, ix_lst, Nat.zero_add, Nat.reduceAdd, slB, isNon, D.isStr, if_true, evSl, evCs, tg_n, tg_t2, tg_t3, tg_t4, Tg.slots, Tg.slotss, wipeE, wr_noexc, Option.map_some, Option.bind_some, reduceIte, hr]
  rw [wo_cons]
  simp only [evS, evE, evEs, evAn, evOr, wo_outs, wo_nx, wo_rt, wr_bind, wr_ok, wo_ite, wr_ite, wr_lift, wr_tru, someEx, List.length_cons, List.length_nil, List.getElem?_cons_zero, List.getElem?_cons_succ, List.set_cons_zero, List.set_cons_succ, ix_lst, Nat.zero_add, Nat.reduceAdd, slB, isNon, D.isStr, if_true, evSl, evCs, tg_n, tg_t2, tg_t3, tg_t4, Tg.slots, Tg.slotss, wipeE, wr_noexc, Option.map_some, Option.bind_some, reduceIte, D.isNon]
  rw [wo_cons]
  simp only [evS, evE, evEs, evAn, evOr, wo_outs, wo_nx, wo_rt, wr_bind, wr_ok, wo_ite, wr_ite, wr_lift, wr_tru, someEx, List.length_cons, List.length_nil, List.getElem?_cons_zero, List.getElem?_cons_succ, List.set_cons_zero, List.set_cons_succ, ix_lst, Nat.zero_add, Nat.reduceAdd, slB, isNon, D.isStr, if_true, evSl, evCs, tg_n, tg_t2, tg_t3, tg_t4, Tg.slots, Tg.slotss, wipeE, wr_noexc, Option.map_some, Option.bind_some, reduceIte]
  exact ⟨trivial, trivial⟩
theorem part_base {w : Str} (h : Name w) : evMe .partition (.str ("base " ++ w)) [.str " "] = some (.tup [.str "base", .str " ", .str w]) := by
  have e : (Str.ofString "base ") ++ w = (Str.ofString "base") ++ (Str.ofString " ") ++ w := TL.ext_tl (by
    simp only [TL.tl_append, List.append_assoc]
    rfl)
  rw [e]
  refine part_ev (c := 32) rfl (fun z => ?_) ?_
  · exact vis_nmem (vis_lit _ (by simp)) (Nat.le_refl _) z
  · rw [← e, Str.length_append]
    have b : (Str.ofString "base ").length = 5 := rfl
    have := h.2.1
    rw [sizeLine_eq]
    omega
def takeBaseF (k24 : Nat) : Fn := ⟨2, 5, true, [
  .asgT (.t [.n 2, .n 3, .n 4]) (.me .partition (.v 1) [.str " "]),
  .iff (.orr [.cmp .ne (.v 2) (.str "base"), .no (.mcall 0 k24 0 "has_sort" [.v 4])]) [.ret (.bl false)] [],
  .fset 0 0 "base" false (.v 4),
  .ret (.bl true)]⟩
theorem takeBase_ok {P : Prog} {n k k24 : Nat} {S0 : Sto} {b : D} {rs : List (Str × Int)} {us : List Rl} {w : Str} (hf : P.fns[k]? = some (takeBaseF k24)) (h24 : P.fns[k24]? = some hasF) (nm : Name w) (h : w ∈ rs.map (·.1)) : run P (n + 2) k [.obj S0.length, .str ("base " ++ w)] (S0 ++ [.ins 0 (fsR b rs us)]) = .ok (.bl true) (S0 ++ [.ins 0 (fsR (.str w) rs us)]) := by
  refine run_to hf rfl ?_
  show Wo (evSs P.gl (run P (n + 1)) (takeBaseF k24).body [some (.obj S0.length), some (.str ("base " ++ w)), none, none, none] (S0 ++ [.ins 0 (fsR b rs us)])) _ _
  unfold takeBaseF
  dsimp only
  rw [wo_cons]
  simp only [evS, evE, evEs, evAn, evOr, wo_outs, wo_nx, wo_rt, wr_bind, wr_ok, wo_ite, wr_ite, wr_lift, wr_tru, someEx, List.length_cons, List.length_nil, List.getElem?_cons_zero, List.getElem?_cons_succ, List.set_cons_zero, List.set_cons_succ, ix_lst, Nat.zero_add, Nat.reduceAdd, slB, isNon, D.isStr, if_true, evSl, evCs, tg_n, tg_t2, tg_t3, tg_t4, Tg.slots, Tg.slotss, wipeE, wr_noexc, Option.map_some, Option.bind_some, reduceIte, part_base nm]
  rw [wo_cons]
  have wb : (Str.ofString "base" == Str.ofString "base") = true := rfl
  simp only [evS, evE, evEs, evAn, evOr, wo_outs, wo_nx, wo_rt, wr_bind, wr_ok, wo_ite, wr_ite, wr_lift, wr_tru, someEx, List.length_cons, List.length_nil, List.getElem?_cons_zero, List.getElem?_cons_succ, List.set_cons_zero, List.set_cons_succ, ix_lst, Nat.zero_add, Nat.reduceAdd, slB, isNon, D.isStr, if_true, evSl, evCs, tg_n, tg_t2, tg_t3, tg_t4, Tg.slots, Tg.slotss, wipeE, wr_noexc, Option.map_some, Option.bind_some, reduceIte, ne_str, wb, Bool.not_true, ins0, lk4, has_ok h24 h, wo_nil, Bool.false_eq_true]
  rw [wo_cons]
  simp only [evS, evE, evEs, evAn, evOr, wo_outs, wo_nx, wo_rt, wr_bind, wr_ok, wo_ite, wr_ite, wr_lift, wr_tru, someEx, List.length_cons, List.length_nil, List.getElem?_cons_zero, List.getElem?_cons_succ, List.set_cons_zero, List.set_cons_succ, ix_lst, Nat.zero_add, Nat.reduceAdd, slB, isNon, D.isStr, if_true, evSl, evCs, tg_n, tg_t2, tg_t3, tg_t4, Tg.slots, Tg.slotss, wipeE, wr_noexc, Option.map_some, Option.bind_some, reduceIte, ins0, D.isMut, Bool.false_eq_true, false_and, List.length_cons, List.length_nil, show 0 + 1 + 1 + 1 < 900 by decide, pt1, set_new]
  rw [wo_cons]
  simp only [evS, evE, evEs, evAn, evOr, wo_outs, wo_nx, wo_rt, wr_bind, wr_ok, wo_ite, wr_ite, wr_lift, wr_tru, someEx, List.length_cons, List.length_nil, List.getElem?_cons_zero, List.getElem?_cons_succ, List.set_cons_zero, List.set_cons_succ, ix_lst, Nat.zero_add, Nat.reduceAdd, slB, isNon, D.isStr, if_true, evSl, evCs, tg_n, tg_t2, tg_t3, tg_t4, Tg.slots, Tg.slotss, wipeE, wr_noexc, Option.map_some, Option.bind_some, reduceIte]
  exact ⟨trivial, trivial⟩
def takeRuleF (k21 k24 g : Nat) : Fn := ⟨2, 4, true, [
  .asg 2 (.call k21 [.v 1]),
  .iff (.orr [.isN (.v 2), .cmp .eq (.flen 0 0 "rules") (.g g), .no (.mcall 0 k24 0 "has_sort" [.ix (.v 2) (.int 2)])]) [.ret (.bl false)] [],
  .iff (.cmp .isin (.ix (.v 2) (.int 0)) (.fcomp 0 0 "rules" (.n 3) (.ix (.v 3) (.int 0)))) [.ret (.bl false)] [],
  .fapp 0 0 "rules" 2,
  .ret (.bl true)]⟩
theorem notin_any {w : Str} {ws : List Str} (h : w ∉ ws) : evCmp .isin (.str w) (.lst (ws.map .str)) = some false := by
  have : (ws.any fun z => z == w) = false := List.any_eq_false.mpr fun z hz e => h (by rw [← eq_of_beq e]; exact hz)
  rw [evIn_isin, in_strs, this]
theorem takeRule_ok {P : Prog} {n k k21 k24 g : Nat} {S0 : Sto} {b : D} {rs : List (Str × Int)} {us : List Rl} {r : Rl} (hf : P.fns[k]? = some (takeRuleF k21 k24 g)) (h24 : P.fns[k24]? = some hasF) (hg : P.gl[g]? = some (.int 8)) (hr : run P (n + 1) k21 [.str r.row] (S0 ++ [.ins 0 (fsR b rs us)]) = .ok r.d (S0 ++ [.ins 0 (fsR b rs us)]))
    (h : r.sort ∈ rs.map (·.1)) (l : us.length < 8) (nn : r.name ∉ us.map Rl.name) : run P (n + 2) k [.obj S0.length, .str r.row] (S0 ++ [.ins 0 (fsR b rs us)]) = .ok (.bl true) (S0 ++ [.ins 0 (fsR b rs (us ++ [r]))]) := by
  refine run_to hf rfl ?_
  show Wo (evSs P.gl (run P (n + 1)) (takeRuleF k21 k24 g).body [some (.obj S0.length), some (.str r.row), none, none] (S0 ++ [.ins 0 (fsR b rs us)])) _ _
  unfold takeRuleF
  dsimp only
  rw [wo_cons]
  simp only [evS, evE, evEs, evAn, evOr, wo_outs, wo_nx, wo_rt, wr_bind, wr_ok, wo_ite, wr_ite, wr_lift, wr_tru, someEx, List.length_cons, List.length_nil, List.getElem?_cons_zero, List.getElem?_cons_succ, List.set_cons_zero, List.set_cons_succ, ix_lst, Nat.zero_add, Nat.reduceAdd, slB, isNon, D.isStr, if_true, evSl, evCs, tg_n, tg_t2, tg_t3, tg_t4, Tg.slots, Tg.slotss, wipeE, wr_noexc, Option.map_some, Option.bind_some, reduceIte, hr]
  have E1 : r.d = .tup [.str r.name, .int r.rank, .str r.sort, .tup (r.cs.map Cn.d)] := rfl
  rw [wo_cons]
  have e8 : ((((us.map Rl.d).length : Nat) : Int) == 8) = false := by
    rw [List.length_map]
    exact beq_eq_false_iff_ne.mpr (by omega)
  simp only [evS, evE, evEs, evAn, evOr, wo_outs, wo_nx, wo_rt, wr_bind, wr_ok, wo_ite, wr_ite, wr_lift, wr_tru, someEx, List.length_cons, List.length_nil, List.getElem?_cons_zero, List.getElem?_cons_succ, List.set_cons_zero, List.set_cons_succ, ix_lst, Nat.zero_add, Nat.reduceAdd, slB, isNon, D.isStr, if_true, evSl, evCs, tg_n, tg_t2, tg_t3, tg_t4, Tg.slots, Tg.slotss, wipeE, wr_noexc, Option.map_some, Option.bind_some, reduceIte, E1, D.isNon, fld0, lk3, hg, eq_int, e8, ix_tup, at2, ins0, lk4, has_ok h24 h, Bool.not_true, wo_nil, Bool.false_eq_true]
  rw [wo_cons]
  simp only [evS, evE, evEs, evAn, evOr, wo_outs, wo_nx, wo_rt, wr_bind, wr_ok, wo_ite, wr_ite, wr_lift, wr_tru, someEx, List.length_cons, List.length_nil, List.getElem?_cons_zero, List.getElem?_cons_succ, List.set_cons_zero, List.set_cons_succ, ix_lst, Nat.zero_add, Nat.reduceAdd, slB, isNon, D.isStr, if_true, evSl, evCs, tg_n, tg_t2, tg_t3, tg_t4, Tg.slots, Tg.slotss, wipeE, wr_noexc, Option.map_some, Option.bind_some, reduceIte, ix_tup, at0, fld0, lk3]
  rw [compL_map (g := fun r => .str r.name) (fun p hp => by
    unfold Rl.d
    simp only [evS, evE, evEs, evAn, evOr, wo_outs, wo_nx, wo_rt, wr_bind, wr_ok, wo_ite, wr_ite, wr_lift, wr_tru, someEx, List.length_cons, List.length_nil, List.getElem?_cons_zero, List.getElem?_cons_succ, List.set_cons_zero, List.set_cons_succ, ix_lst, Nat.zero_add, Nat.reduceAdd, slB, isNon, D.isStr, if_true, evSl, evCs, tg_n, tg_t2, tg_t3, tg_t4, Tg.slots, Tg.slotss, wipeE, wr_noexc, Option.map_some, Option.bind_some, reduceIte, Res.ok_bind, ix_tup, at0, lift_some])]
  have e5 : (us.map fun r => D.str r.name) = (us.map Rl.name).map .str := by
    rw [List.map_map]
    rfl
  simp only [evS, evE, evEs, evAn, evOr, wo_outs, wo_nx, wo_rt, wr_bind, wr_ok, wo_ite, wr_ite, wr_lift, wr_tru, someEx, List.length_cons, List.length_nil, List.getElem?_cons_zero, List.getElem?_cons_succ, List.set_cons_zero, List.set_cons_succ, ix_lst, Nat.zero_add, Nat.reduceAdd, slB, isNon, D.isStr, if_true, evSl, evCs, tg_n, tg_t2, tg_t3, tg_t4, Tg.slots, Tg.slotss, wipeE, wr_noexc, Option.map_some, Option.bind_some, reduceIte, e5, notin_any nn, wo_nil, Bool.false_eq_true]
  rw [wo_cons]
  have lt : (us.map Rl.d).length < sizeLine := by
    rw [List.length_map, sizeLine_eq]
    omega
  have e6 := pt3 (b := b) (rs := rs) (us := us) r
  rw [E1] at e6
  simp only [evS, evE, evEs, evAn, evOr, wo_outs, wo_nx, wo_rt, wr_bind, wr_ok, wo_ite, wr_ite, wr_lift, wr_tru, someEx, List.length_cons, List.length_nil, List.getElem?_cons_zero, List.getElem?_cons_succ, List.set_cons_zero, List.set_cons_succ, ix_lst, Nat.zero_add, Nat.reduceAdd, slB, isNon, D.isStr, if_true, evSl, evCs, tg_n, tg_t2, tg_t3, tg_t4, Tg.slots, Tg.slotss, wipeE, wr_noexc, Option.map_some, Option.bind_some, reduceIte, ins0, lk3, if_pos lt, e6, set_new]
  rw [wo_cons]
  simp only [evS, evE, evEs, evAn, evOr, wo_outs, wo_nx, wo_rt, wr_bind, wr_ok, wo_ite, wr_ite, wr_lift, wr_tru, someEx, List.length_cons, List.length_nil, List.getElem?_cons_zero, List.getElem?_cons_succ, List.set_cons_zero, List.set_cons_succ, ix_lst, Nat.zero_add, Nat.reduceAdd, slB, isNon, D.isStr, if_true, evSl, evCs, tg_n, tg_t2, tg_t3, tg_t4, Tg.slots, Tg.slotss, wipeE, wr_noexc, Option.map_some, Option.bind_some, reduceIte]
  exact ⟨trivial, trivial⟩
def takeF (k25 k26 k27 : Nat) : Fn := ⟨2, 2, false, [
  .iff (.notN (.fld 0 0 "base")) [.ret (.mcall 0 k27 0 "take_rule" [.v 1])] [],
  .ret (.orr [.mcall 0 k25 0 "take_rate" [.v 1], .mcall 0 k26 0 "take_base" [.v 1]])]⟩
theorem take_rate {P : Prog} {n k k25 k26 k27 : Nat} {S0 : Sto} {rs : List (Str × Int)} {us : List Rl} {row : Str} {S2 : Sto} (hf : P.fns[k]? = some (takeF k25 k26 k27)) (h : run P n k25 [.obj S0.length, .str row] (S0 ++ [.ins 0 (fsR .non rs us)]) = .ok (.bl true) S2) : run P (n + 1) k [.obj S0.length, .str row] (S0 ++ [.ins 0 (fsR .non rs us)]) = .ok (.bl true) S2 := by
  refine run_to hf rfl ?_
  show Wo (evSs P.gl (run P n) (takeF k25 k26 k27).body [some (.obj S0.length), some (.str row)] (S0 ++ [.ins 0 (fsR .non rs us)])) _ _
  unfold takeF
  dsimp only
  rw [wo_cons]
  simp only [evS, evE, evEs, evAn, evOr, wo_outs, wo_nx, wo_rt, wr_bind, wr_ok, wo_ite, wr_ite, wr_lift, wr_tru, someEx, List.length_cons, List.length_nil, List.getElem?_cons_zero, List.getElem?_cons_succ, List.set_cons_zero, List.set_cons_succ, ix_lst, Nat.zero_add, Nat.reduceAdd, slB, isNon, D.isStr, if_true, evSl, evCs, tg_n, tg_t2, tg_t3, tg_t4, Tg.slots, Tg.slotss, wipeE, wr_noexc, Option.map_some, Option.bind_some, reduceIte, fld0, lk1, D.isMut, D.isNon, Bool.not_true, Bool.false_eq_true, wo_nil]
  rw [wo_cons]
  simp only [evS, evE, evEs, evAn, evOr, wo_outs, wo_nx, wo_rt, wr_bind, wr_ok, wo_ite, wr_ite, wr_lift, wr_tru, someEx, List.length_cons, List.length_nil, List.getElem?_cons_zero, List.getElem?_cons_succ, List.set_cons_zero, List.set_cons_succ, ix_lst, Nat.zero_add, Nat.reduceAdd, slB, isNon, D.isStr, if_true, evSl, evCs, tg_n, tg_t2, tg_t3, tg_t4, Tg.slots, Tg.slotss, wipeE, wr_noexc, Option.map_some, Option.bind_some, reduceIte, ins0, lk5, h]
  exact ⟨trivial, trivial⟩
theorem take_base {P : Prog} {n k k25 k26 k27 : Nat} {S0 : Sto} {rs : List (Str × Int)} {us : List Rl} {row : Str} {S2 : Sto} (hf : P.fns[k]? = some (takeF k25 k26 k27)) (h : run P n k25 [.obj S0.length, .str row] (S0 ++ [.ins 0 (fsR .non rs us)]) = .ok (.bl false) (S0 ++ [.ins 0 (fsR .non rs us)]))
    (h2 : run P n k26 [.obj S0.length, .str row] (S0 ++ [.ins 0 (fsR .non rs us)]) = .ok (.bl true) S2) : run P (n + 1) k [.obj S0.length, .str row] (S0 ++ [.ins 0 (fsR .non rs us)]) = .ok (.bl true) S2 := by
  refine run_to hf rfl ?_
  show Wo (evSs P.gl (run P n) (takeF k25 k26 k27).body [some (.obj S0.length), some (.str row)] (S0 ++ [.ins 0 (fsR .non rs us)])) _ _
  unfold takeF
  dsimp only
  rw [wo_cons]
  simp only [evS, evE, evEs, evAn, evOr, wo_outs, wo_nx, wo_rt, wr_bind, wr_ok, wo_ite, wr_ite, wr_lift, wr_tru, someEx, List.length_cons, List.length_nil, List.getElem?_cons_zero, List.getElem?_cons_succ, List.set_cons_zero, List.set_cons_succ, ix_lst, Nat.zero_add, Nat.reduceAdd, slB, isNon, D.isStr, if_true, evSl, evCs, tg_n, tg_t2, tg_t3, tg_t4, Tg.slots, Tg.slotss, wipeE, wr_noexc, Option.map_some, Option.bind_some, reduceIte, fld0, lk1, D.isMut, D.isNon, Bool.not_true, Bool.false_eq_true, wo_nil]
  rw [wo_cons]
  simp only [evS, evE, evEs, evAn, evOr, wo_outs, wo_nx, wo_rt, wr_bind, wr_ok, wo_ite, wr_ite, wr_lift, wr_tru, someEx, List.length_cons, List.length_nil, List.getElem?_cons_zero, List.getElem?_cons_succ, List.set_cons_zero, List.set_cons_succ, ix_lst, Nat.zero_add, Nat.reduceAdd, slB, isNon, D.isStr, if_true, evSl, evCs, tg_n, tg_t2, tg_t3, tg_t4, Tg.slots, Tg.slotss, wipeE, wr_noexc, Option.map_some, Option.bind_some, reduceIte, ins0, lk5, lk6, h, h2]
  exact ⟨trivial, trivial⟩
theorem take_rule {P : Prog} {n k k25 k26 k27 : Nat} {S0 : Sto} {w : Str} {rs : List (Str × Int)} {us : List Rl} {row : Str} {S2 : Sto} (hf : P.fns[k]? = some (takeF k25 k26 k27)) (h : run P n k27 [.obj S0.length, .str row] (S0 ++ [.ins 0 (fsR (.str w) rs us)]) = .ok (.bl true) S2) : run P (n + 1) k [.obj S0.length, .str row] (S0 ++ [.ins 0 (fsR (.str w) rs us)]) = .ok (.bl true) S2 := by
  refine run_to hf rfl ?_
  show Wo (evSs P.gl (run P n) (takeF k25 k26 k27).body [some (.obj S0.length), some (.str row)] (S0 ++ [.ins 0 (fsR (.str w) rs us)])) _ _
  unfold takeF
  dsimp only
  rw [wo_cons]
  simp only [evS, evE, evEs, evAn, evOr, wo_outs, wo_nx, wo_rt, wr_bind, wr_ok, wo_ite, wr_ite, wr_lift, wr_tru, someEx, List.length_cons, List.length_nil, List.getElem?_cons_zero, List.getElem?_cons_succ, List.set_cons_zero, List.set_cons_succ, ix_lst, Nat.zero_add, Nat.reduceAdd, slB, isNon, D.isStr, if_true, evSl, evCs, tg_n, tg_t2, tg_t3, tg_t4, Tg.slots, Tg.slotss, wipeE, wr_noexc, Option.map_some, Option.bind_some, reduceIte, fld0, lk1, D.isMut, D.isNon, Bool.not_false, Bool.false_eq_true]
  rw [wo_cons]
  simp only [evS, evE, evEs, evAn, evOr, wo_outs, wo_nx, wo_rt, wr_bind, wr_ok, wo_ite, wr_ite, wr_lift, wr_tru, someEx, List.length_cons, List.length_nil, List.getElem?_cons_zero, List.getElem?_cons_succ, List.set_cons_zero, List.set_cons_succ, ix_lst, Nat.zero_add, Nat.reduceAdd, slB, isNon, D.isStr, if_true, evSl, evCs, tg_n, tg_t2, tg_t3, tg_t4, Tg.slots, Tg.slotss, wipeE, wr_noexc, Option.map_some, Option.bind_some, reduceIte, ins0, lk7, h]
  exact ⟨trivial, trivial⟩
end VE

set_option Elab.async false
set_option linter.all false
set_option maxRecDepth 100000
set_option maxHeartbeats 4000000
/-! ZL, part 7: books read back. -/
namespace VE
open PySem PySem.Spec PyProof.Rows L2

def fsAt (b : Bk) (i : Nat) : List (Str × D) := if i ≤ b.rates.length then fsR .non (b.rates.take i) [] else fsR (.str b.base) b.rates (b.rules.take (i - b.rates.length - 1))
def Bk.all (b : Bk) : List Str := b.rows ++ b.rules.map Rl.row
theorem BkOk.base_name {b : Bk} (ok : BkOk b) : Name b.base := by
  obtain ⟨p, hp, e⟩ := List.mem_map.mp ok.base
  rw [← e]
  exact (ok.names p hp).1
theorem BkOk.g {b : Bk} (ok : BkOk b) : ∀ r ∈ b.rules, RlG r := fun r hr => ⟨(ok.rok r hr).1, (ok.rok r hr).2.1, by
  obtain ⟨p, hp, e⟩ := List.mem_map.mp (ok.rok r hr).2.2
  rw [← e]
  exact (ok.names p hp).1⟩
theorem all_len (b : Bk) : b.all.length = b.rates.length + 1 + b.rules.length := by
  unfold Bk.all Bk.rows
  rw [List.length_append, List.length_append, List.length_map, List.length_map]
  rfl
theorem take_step {P : Prog} {m k21 k22 k24 k25 k26 k27 k28 g : Nat} {b : Bk} {S0 : Sto} {i : Nat} {row : Str} (rateF : ∀ (p : Str × Int) (S : Sto), Name p.1 ∧ 0 ≤ p.2 ∧ p.2 ≤ 1000000 → run P (m + 1) k22 [.str (rateT p)] S = .ok (rdD p) S) (baseF : ∀ (w : Str) (S : Sto), Name w → run P (m + 1) k22 [.str ("base " ++ w)] S = .ok .non S)
    (ruleF : ∀ (r : Rl) (S : Sto), RlG r → run P (m + 1) k21 [.str r.row] S = .ok r.d S) (h24 : P.fns[k24]? = some hasF) (h25 : P.fns[k25]? = some (takeRateF k22)) (h26 : P.fns[k26]? = some (takeBaseF k24)) (h27 : P.fns[k27]? = some (takeRuleF k21 k24 g)) (h28 : P.fns[k28]? = some (takeF k25 k26 k27)) (hg : P.gl[g]? = some (.int 8))
    (ok : BkOk b) (rise : b.Rise) (hr : b.all[i]? = some row) : run P (m + 3) k28 [.obj S0.length, .str row] (S0 ++ [.ins 0 (fsAt b i)]) = .ok (.bl true) (S0 ++ [.ins 0 (fsAt b (i + 1))]) := by
  unfold Bk.all Bk.rows at hr
  by_cases h1 : i < b.rates.length
  · have e : b.rates[i]? = some b.rates[i] := List.getElem?_eq_getElem h1
    generalize hp : b.rates[i] = p at e
    rw [List.getElem?_append_left (by rw [List.length_append, List.length_map]; omega), List.getElem?_append_left (by rw [List.length_map]; exact h1), List.getElem?_map, e] at hr
    cases hr
    have mp : p ∈ b.rates := List.mem_of_getElem? e
    have e1 : fsAt b i = fsR .non (b.rates.take i) [] := if_pos (Nat.le_of_lt h1)
    have e2 : fsAt b (i + 1) = fsR .non (b.rates.take i ++ [p]) [] := by
      unfold fsAt
      rw [if_pos (show i + 1 ≤ b.rates.length from h1), List.take_add_one, e]
      rfl
    rw [e1, e2]
    refine take_rate h28 (takeRate_ok h25 (rateF p _ (ok.names p mp)) (fun q hq => ok.names q (List.mem_of_mem_take hq)) ?_ fun q hq => ?_)
    · rw [List.length_take]
      have := ok.few
      omega
    · obtain ⟨j, hj⟩ := List.mem_iff_getElem?.mp hq
      have lj : j < i := by
        have := (List.getElem?_eq_some_iff.mp hj).1
        rw [List.length_take] at this
        omega
      rw [List.getElem?_take, if_pos lj] at hj
      have := List.pairwise_iff_getElem.mp rise j i (by omega) h1 lj
      rw [(List.getElem?_eq_some_iff.mp hj).2, hp] at this
      exact this
  · by_cases h2 : i = b.rates.length
    · subst h2
      rw [List.getElem?_append_left (by rw [List.length_append, List.length_map]; exact Nat.lt_succ_self _), List.getElem?_append_right (by rw [List.length_map]; exact Nat.le_refl _), List.length_map, Nat.sub_self] at hr
      cases hr
      have e1 : fsAt b b.rates.length = fsR .non b.rates [] := by
        unfold fsAt
        rw [if_pos (Nat.le_refl _), List.take_length]
      have e2 : fsAt b (b.rates.length + 1) = fsR (.str b.base) b.rates [] := by
        unfold fsAt
        rw [if_neg (by omega)]
        have z : b.rates.length + 1 - b.rates.length - 1 = 0 := by omega
        rw [z, List.take_zero]
      rw [e1, e2]
      exact take_base h28 (takeRate_no h25 (baseF _ _ ok.base_name)) (takeBase_ok h26 h24 ok.base_name ok.base)
    · obtain ⟨j, rfl⟩ : ∃ j, i = b.rates.length + 1 + j := ⟨i - b.rates.length - 1, by omega⟩
      have l2 : (b.rates.map rateT ++ [(Str.ofString "base ") ++ b.base]).length = b.rates.length + 1 := by
        rw [List.length_append, List.length_map]
        rfl
      rw [List.getElem?_append_right (by rw [l2]; omega), l2, show b.rates.length + 1 + j - (b.rates.length + 1) = j by omega, List.getElem?_map] at hr
      cases hj : b.rules[j]? with
      | none =>
        rw [hj] at hr
        cases hr
      | some r =>
        rw [hj] at hr
        cases hr
        have mr : r ∈ b.rules := List.mem_of_getElem? hj
        have lj := (List.getElem?_eq_some_iff.mp hj).1
        have e1 : fsAt b (b.rates.length + 1 + j) = fsR (.str b.base) b.rates (b.rules.take j) := by
          unfold fsAt
          rw [if_neg (by omega)]
          have z : b.rates.length + 1 + j - b.rates.length - 1 = j := by omega
          rw [z]
        have e2 : fsAt b (b.rates.length + 1 + j + 1) = fsR (.str b.base) b.rates (b.rules.take j ++ [r]) := by
          unfold fsAt
          rw [if_neg (by omega)]
          have z : b.rates.length + 1 + j + 1 - b.rates.length - 1 = j + 1 := by omega
          rw [z, List.take_add_one, hj]
          rfl
        rw [e1, e2]
        refine take_rule h28 (takeRule_ok h27 h24 hg (ruleF r _ (ok.g r mr)) (ok.rok r mr).2.2 ?_ fun z => ?_)
        · rw [List.length_take]
          have := ok.rules
          omega
        · obtain ⟨q, hq, e⟩ := List.mem_map.mp z
          obtain ⟨i, hi⟩ := List.mem_iff_getElem?.mp hq
          have li : i < j := by
            have := (List.getElem?_eq_some_iff.mp hi).1
            rw [List.length_take] at this
            omega
          rw [List.getElem?_take, if_pos li] at hi
          have lii := (List.getElem?_eq_some_iff.mp hi).1
          have nd := List.pairwise_iff_getElem.mp ok.rnodup i j (by rw [List.length_map]; exact lii) (by rw [List.length_map]; exact lj) li
          rw [List.getElem_map, List.getElem_map, (List.getElem?_eq_some_iff.mp hi).2, (List.getElem?_eq_some_iff.mp hj).2] at nd
          exact nd e
/-- no line end within -/
def lin (w : Str) : Prop := ∀ c ∈ TL.tl w, 10 < c
theorem joinL_mem {s : List Nat} {c : Nat} : ∀ {ps : List (List Nat)}, c ∈ TL.joinL s ps → c ∈ s ∨ ∃ p ∈ ps, c ∈ p
  | [], h => by cases h
  | [p], h => .inr ⟨p, List.mem_singleton.mpr rfl, h⟩
  | p :: q :: r, h => by
    have h : c ∈ p ++ (s ++ TL.joinL s (q :: r)) := h
    rcases List.mem_append.mp h with h | h
    · exact .inr ⟨p, List.mem_cons_self, h⟩
    · rcases List.mem_append.mp h with h | h
      · exact .inl h
      · exact (joinL_mem h).imp id fun ⟨x, hx, hc⟩ => ⟨x, List.mem_cons_of_mem _ hx, hc⟩
theorem lin_join {ws : List Str} (h : ∀ w ∈ ws, vis w) : lin (Txt.join " " ws) := fun c hc => by
  rw [tl_joinE] at hc
  rcases joinL_mem hc with q | ⟨p, hp, q⟩
  · have q : c ∈ [32] := q
    rw [List.mem_singleton.mp q]
    decide
  · obtain ⟨w, hw, rfl⟩ := List.mem_map.mp hp
    have := h w hw c q
    omega
theorem BkOk.lin {b : Bk} (ok : BkOk b) : ∀ w ∈ b.all, lin w := fun w hw => by
  unfold Bk.all Bk.rows at hw
  rcases List.mem_append.mp hw with q | q
  · rcases List.mem_append.mp q with q | q
    · obtain ⟨p, hp, rfl⟩ := List.mem_map.mp q
      rw [rateT_join]
      refine lin_join fun w hw => ?_
      have : w = "rate" ∨ w = p.1 ∨ w = sT p.2 := by simpa using hw
      rcases this with e | e | e <;> subst e
      · exact vis_lit _ (by simp)
      · exact vis_name (ok.names p hp).1
      · exact vis_sT (ok.names p hp).2.1
    · rw [List.mem_singleton.mp q, base_join]
      refine lin_join fun w hw => ?_
      have : w = "base" ∨ w = b.base := by simpa using hw
      rcases this with e | e <;> subst e
      · exact vis_lit _ (by simp)
      · exact vis_name ok.base_name
  · obtain ⟨r, hr, rfl⟩ := List.mem_map.mp q
    exact lin_join (ok.g r hr).vis
theorem text_len {b : Bk} (ok : BkOk b) : b.text.length ≤ 31031 := by
  obtain ⟨a, c⟩ := ok.t.rows_len
  have := join_len (s := "\n") (ws := b.rows ++ b.rules.map Rl.row) (k := 1000) fun w hw => by
    rcases List.mem_append.mp hw with q | q
    · exact c w q
    · obtain ⟨r, hr, rfl⟩ := List.mem_map.mp q
      exact (ok.g r hr).t.row_len
  have e : (Str.ofString "\n").length = 1 := rfl
  rw [e, List.length_append, List.length_map] at this
  have h := ok.rules
  have l : (b.rows.length + b.rules.length) * (1000 + 1) ≤ 31 * 1001 := Nat.mul_le_mul (by omega) (Nat.le_refl _)
  unfold Bk.text
  omega
def rowsF : Fn := ⟨1, 1, false, [
  .ret (.ite (.cmp .ne (.v 0) (.str "")) (.me .split (.v 0) [.str "\n"]) (.lst []))]⟩
theorem rows_ok {P : Prog} {n k : Nat} {b : Bk} {S : Sto} (hf : P.fns[k]? = some rowsF) (ok : BkOk b) : run P (n + 1) k [.str b.text] S = .ok (.lst (b.all.map .str)) S := by
  refine run_eq hf rfl ?_
  show Wo (evSs P.gl (run P n) rowsF.body [some (.str b.text)] S) _ _
  unfold rowsF
  dsimp only
  have ne : b.all ≠ [] := fun z => by
    have := all_len b
    rw [z] at this
    simp only [List.length_nil] at this
    omega
  have free : ∀ w ∈ b.all, 10 ∉ TL.tl w := fun w hw z => Nat.lt_irrefl _ (ok.lin w hw 10 z)
  have sp : evMe .split (.str b.text) [.str "\n"] = some (.lst (b.all.map .str)) := split_ev (c := 10) rfl (by decide) ne free (by have := text_len ok; unfold Bk.text at this; rw [sizeLine_eq]; show (Txt.join "\n" (b.rows ++ b.rules.map Rl.row)).length + 2 ≤ _; omega)
  have e0 : (b.text == Str.ofString "") = false := beq_eq_false_iff_ne.mpr fun z => by
    have e1 : TL.spl [10] 0 [] (TL.joinL [10] (b.all.map TL.tl)) = b.all.map TL.tl := TL.spl_join (fun z => ne (List.map_eq_nil_iff.mp z)) fun p hp => by
      obtain ⟨w, hw, rfl⟩ := List.mem_map.mp hp
      exact free w hw
    have e2 : TL.joinL [10] (b.all.map TL.tl) = [] := by
      have := tl_joinE "\n" b.all
      rw [show Txt.join "\n" b.all = b.text from rfl, z] at this
      exact this.symm
    rw [e2] at e1
    have mb : TL.tl ((Str.ofString "base ") ++ b.base) ∈ b.all.map TL.tl := List.mem_map_of_mem (List.mem_append_left _ (List.mem_append_right _ (List.mem_singleton.mpr rfl)))
    rw [← e1, TL.spl_nil] at mb
    have := List.mem_singleton.mp mb
    rw [TL.tl_append] at this
    have : TL.tl (Str.ofString "base ") = [] := (List.append_eq_nil_iff.mp this).1
    exact absurd this (by decide)
  rw [wo_cons]
  simp only [evS, evE, evEs, evAn, evOr, wo_outs, wo_nx, wo_rt, wr_bind, wr_ok, wo_ite, wr_ite, wr_lift, wr_tru, someEx, List.length_cons, List.length_nil, List.getElem?_cons_zero, List.getElem?_cons_succ, List.set_cons_zero, List.set_cons_succ, ix_lst, Nat.zero_add, Nat.reduceAdd, slB, isNon, D.isStr, if_true, evSl, evCs, tg_n, tg_t2, tg_t3, tg_t4, Tg.slots, Tg.slotss, wipeE, wr_noexc, Option.map_some, Option.bind_some, reduceIte, ne_str, e0, Bool.not_false, sp]
  exact ⟨trivial, trivial⟩
def readF (k14 k23 k28 : Nat) : Fn := ⟨1, 5, true, [
  .iff (.no (.isi (.v 0) .str)) [.bad] [],
  .asg 1 (.new 0 k23 []),
  .asg 2 (.call k14 [.v 0]),
  .forr (.t [.n 3, .n 4]) (.enum (.v 2)) [.iff (.no (.mcall 0 k28 1 "take" [.v 4])) [.bad] []],
  .iff (.isN (.fld 0 1 "base")) [.bad] [],
  .ret (.tup [.fld 0 1 "base", .ftup 0 1 "rates", .ftup 0 1 "rules"])]⟩
theorem fsAt_lk (b : Bk) (i : Nat) : (fsAt b i).lookup (Str.ofString "take") = none := by
  unfold fsAt
  split <;> rfl
theorem read_ok {P : Prog} {m k k14 k23 k28 : Nat} {b : Bk} {S0 : Sto} (hf : P.fns[k]? = some (readF k14 k23 k28)) (h14 : P.fns[k14]? = some rowsF) (h23 : P.fns[k23]? = some initF) (ok : BkOk b)
    (step : ∀ (i : Nat) (row : Str), b.all[i]? = some row → run P (m + 1) k28 [.obj S0.length, .str row] (S0 ++ [.ins 0 (fsAt b i)]) = .ok (.bl true) (S0 ++ [.ins 0 (fsAt b (i + 1))])) :
    ∃ S2, run P (m + 2) k [.str b.text] S0 = .ok b.d S2 := by
  refine ⟨S0 ++ [.ins 0 (fsAt b b.all.length)], run_to hf rfl ?_⟩
  show Wo (evSs P.gl (run P (m + 1)) (readF k14 k23 k28).body [some (.str b.text), none, none, none, none] S0) _ _
  unfold readF
  dsimp only
  rw [wo_cons]
  simp only [evS, evE, evEs, evAn, evOr, wo_outs, wo_nx, wo_rt, wr_bind, wr_ok, wo_ite, wr_ite, wr_lift, wr_tru, someEx, List.length_cons, List.length_nil, List.getElem?_cons_zero, List.getElem?_cons_succ, List.set_cons_zero, List.set_cons_succ, ix_lst, Nat.zero_add, Nat.reduceAdd, slB, isNon, D.isStr, if_true, evSl, evCs, tg_n, tg_t2, tg_t3, tg_t4, Tg.slots, Tg.slotss, wipeE, wr_noexc, Option.map_some, Option.bind_some, reduceIte, isi_str, Bool.not_true, wo_nil, Bool.false_eq_true]
  rw [wo_cons]
  simp only [evS, evE, evEs, evAn, evOr, wo_outs, wo_nx, wo_rt, wr_bind, wr_ok, wo_ite, wr_ite, wr_lift, wr_tru, someEx, List.length_cons, List.length_nil, List.getElem?_cons_zero, List.getElem?_cons_succ, List.set_cons_zero, List.set_cons_succ, ix_lst, Nat.zero_add, Nat.reduceAdd, slB, isNon, D.isStr, if_true, evSl, evCs, tg_n, tg_t2, tg_t3, tg_t4, Tg.slots, Tg.slotss, wipeE, wr_noexc, Option.map_some, Option.bind_some, reduceIte, init_ok h23]
  rw [wo_cons]
  simp only [evS, evE, evEs, evAn, evOr, wo_outs, wo_nx, wo_rt, wr_bind, wr_ok, wo_ite, wr_ite, wr_lift, wr_tru, someEx, List.length_cons, List.length_nil, List.getElem?_cons_zero, List.getElem?_cons_succ, List.set_cons_zero, List.set_cons_succ, ix_lst, Nat.zero_add, Nat.reduceAdd, slB, isNon, D.isStr, if_true, evSl, evCs, tg_n, tg_t2, tg_t3, tg_t4, Tg.slots, Tg.slotss, wipeE, wr_noexc, Option.map_some, Option.bind_some, reduceIte, rows_ok h14 ok]
  rw [wo_cons]
  have en : evEnum (.lst (b.all.map .str)) = some ((b.all.map D.str).zipIdx.map fun p => .tup [.int (p.2 : Nat), p.1]) := rfl
  simp only [evIt, evS, evE, evEs, evAn, evOr, wo_outs, wo_nx, wo_rt, wr_bind, wr_ok, wo_ite, wr_ite, wr_lift, wr_tru, someEx, List.length_cons, List.length_nil, List.getElem?_cons_zero, List.getElem?_cons_succ, List.set_cons_zero, List.set_cons_succ, ix_lst, Nat.zero_add, Nat.reduceAdd, slB, isNon, D.isStr, if_true, evSl, evCs, tg_n, tg_t2, tg_t3, tg_t4, Tg.slots, Tg.slotss, wipeE, wr_noexc, Option.map_some, Option.bind_some, reduceIte, en, items_lst]
  have e00 : fsAt b 0 = fsR .non [] [] := by
    unfold fsAt
    rw [if_pos (Nat.zero_le _), List.take_zero]
  have lz : ((b.all.map D.str).zipIdx.map fun p => D.tup [.int (p.2 : Nat), p.1]).length = b.all.length := by rw [List.length_map, List.length_zipIdx, List.length_map]
  refine wo_for (I := fun i env S' => S' = S0 ++ [.ins 0 (fsAt b i)] ∧ ∃ x3 x4, env = [some (.str b.text), some (.obj S0.length), some (.lst (b.all.map .str)), x3, x4]) (k := 0) ⟨by rw [e00], none, none, rfl⟩ (fun i d env S' hd ⟨es, x3, x4, ee⟩ => ?_) fun env S' ⟨es, x3, x4, ee⟩ => ?_
  · subst es ee
    rw [Nat.zero_add]
    rw [List.getElem?_map, List.getElem?_zipIdx, List.getElem?_map] at hd
    cases hr : b.all[i]? with
    | none =>
      rw [hr] at hd
      cases hd
    | some row =>
      rw [hr] at hd
      have ed : d = .tup [.int ((i : Nat) : Int), .str row] := by
        have := (Option.some.inj hd).symm
        simpa using this
      subst ed
      simp only [evS, evE, evEs, evAn, evOr, wo_outs, wo_nx, wo_rt, wr_bind, wr_ok, wo_ite, wr_ite, wr_lift, wr_tru, someEx, List.length_cons, List.length_nil, List.getElem?_cons_zero, List.getElem?_cons_succ, List.set_cons_zero, List.set_cons_succ, ix_lst, Nat.zero_add, Nat.reduceAdd, slB, isNon, D.isStr, if_true, evSl, evCs, tg_n, tg_t2, tg_t3, tg_t4, Tg.slots, Tg.slotss, wipeE, wr_noexc, Option.map_some, Option.bind_some, reduceIte]
      rw [wo_cons]
      simp only [evS, evE, evEs, evAn, evOr, wo_outs, wo_nx, wo_rt, wr_bind, wr_ok, wo_ite, wr_ite, wr_lift, wr_tru, someEx, List.length_cons, List.length_nil, List.getElem?_cons_zero, List.getElem?_cons_succ, List.set_cons_zero, List.set_cons_succ, ix_lst, Nat.zero_add, Nat.reduceAdd, slB, isNon, D.isStr, if_true, evSl, evCs, tg_n, tg_t2, tg_t3, tg_t4, Tg.slots, Tg.slotss, wipeE, wr_noexc, Option.map_some, Option.bind_some, reduceIte, ins1, fsAt_lk, step i row hr, Bool.not_true, wo_nil, Bool.false_eq_true]
      exact ⟨trivial, _, _, rfl⟩
  · subst es ee
    rw [Nat.zero_add, lz]
    have e1 : fsAt b b.all.length = fsR (.str b.base) b.rates b.rules := by
      have := all_len b
      unfold fsAt
      rw [if_neg (by omega)]
      have z : b.rules.take (b.all.length - b.rates.length - 1) = b.rules := List.take_of_length_le (by omega)
      rw [z]
    rw [e1]
    rw [wo_cons]
    simp only [evS, evE, evEs, evAn, evOr, wo_outs, wo_nx, wo_rt, wr_bind, wr_ok, wo_ite, wr_ite, wr_lift, wr_tru, someEx, List.length_cons, List.length_nil, List.getElem?_cons_zero, List.getElem?_cons_succ, List.set_cons_zero, List.set_cons_succ, ix_lst, Nat.zero_add, Nat.reduceAdd, slB, isNon, D.isStr, if_true, evSl, evCs, tg_n, tg_t2, tg_t3, tg_t4, Tg.slots, Tg.slotss, wipeE, wr_noexc, Option.map_some, Option.bind_some, reduceIte, fld1, lk1, D.isMut, D.isNon, wo_nil, Bool.false_eq_true]
    rw [wo_cons]
    simp only [evS, evE, evEs, evAn, evOr, wo_outs, wo_nx, wo_rt, wr_bind, wr_ok, wo_ite, wr_ite, wr_lift, wr_tru, someEx, List.length_cons, List.length_nil, List.getElem?_cons_zero, List.getElem?_cons_succ, List.set_cons_zero, List.set_cons_succ, ix_lst, Nat.zero_add, Nat.reduceAdd, slB, isNon, D.isStr, if_true, evSl, evCs, tg_n, tg_t2, tg_t3, tg_t4, Tg.slots, Tg.slotss, wipeE, wr_noexc, Option.map_some, Option.bind_some, reduceIte, fld1, lk1, lk2, lk3, D.isMut, Bool.false_eq_true]
    exact ⟨rfl, trivial⟩
theorem repr_tup {xs : List D} (h : D.nices xs = true) (hb : D.blks xs ≤ 2 ^ 20) (hd : D.deps xs ≤ 63) : ∃ s, evBi .repr [.tup xs] = some (.str s) := by
  obtain ⟨p, a, b, c, d, e, f⟩ := nice_pd (d := .tup xs) (by simpa only [D.nice] using h)
  refine ⟨p.shown, ?_⟩
  show (match (D.tup xs).pd with
    | some p => if (p.depth ≤ 64 ∧ p.showable = true) ∧ p.shown.length ≤ sizeLine ∧ p.shown.cps.all (· < 0x110000) = true then some (D.str p.shown) else none
    | none => none) = _
  rw [a]
  dsimp only
  refine if_pos ⟨⟨?_, b⟩, ?_, sgn_iff.mpr f⟩
  · rw [e]
    show D.deps xs + 1 ≤ 64
    omega
  · refine PyData.shown_fits_bulk (by decide) (by decide) c ?_
    rw [d]
    exact hb
theorem repr_bk {b : Bk} (ok : BkOk b) : ∃ s, evBi .repr [b.d] = some (.str s) := by
  obtain ⟨a, c, d⟩ := nice_bk ok.n
  unfold Bk.d at *
  refine repr_tup (by simpa only [D.nice] using a) (Nat.le_trans c (by decide)) ?_
  have : D.deps [.str b.base, .tup (b.rates.map rdD), .tup (b.rules.map Rl.d)] + 1 ≤ 6 := d
  omega
def law59 (kt kw kn kd kx ks kr ki : Nat) : Fn := ⟨1, 8, true, [
  .asg 1 (.call kt [.v 0]),
  .asg 2 (.comp (.call kw [.v 1]) (.n 6) (.rng [.int 3]) []),
  .asg 3 (.ix (.call kn [.v 1]) (.int 0)),
  .app 2 (.tup [.v 3, .tup [.tup [.v 3, .call kd [.v 1, .int 3]]], .tup []]),
  .forr (.n 4) (.bin .add (.v 2) (.sl (.v 2) (.non) (.int 1))) [.forr (.n 5) (.tup [.call kx [.v 4], .call ks [.v 4]]) [.asg 7 (.call kr [.v 5]), .frz [7], .iff (.orr [.cmp .ne (.bi .repr [.v 7]) (.bi .repr [.v 4]), .notB (.call ki [.v 7]) true, .cmp .ne (.call ks [.v 7]) (.v 5)]) [.ret (.bl false)] []]],
  .ret (.bl true)]⟩
def WideFn2 (rc : Nat → List D → Sto → Res D) (kw : Nat) (cells : List Int) : Prop := ∀ (b : Int) (S : Sto), StB cells b S → b + 600 ≤ 2 ^ 60 → Wr (rc kw [.obj 0] S) fun d S => (∃ k : Bk, d = k.d ∧ BkOk k ∧ k.Rise) ∧ StB cells (b + 600) S
theorem least_ok {w : Str} {x : Int} (h : Name w) (h0 : 0 ≤ x) (h1 : x < 3) : BkOk ⟨w, [(w, x)], []⟩ ∧ (Bk.mk w [(w, x)] []).Rise := by
  refine ⟨⟨List.mem_singleton.mpr rfl, fun p hp => ?_, by simp, (by decide : 1 ≤ 21), (by decide : 0 ≤ 8), by simp, fun r hr => by cases hr⟩, List.pairwise_singleton _ _⟩
  rw [List.mem_singleton.mp hp]
  exact ⟨h, h0, by show x ≤ 1000000; omega⟩
theorem law59_ok {gl : List D} {rc : Nat → List D → Sto → Res D} {kt kw kn kd kx ks kr ki : Nat} {ns : List Int} (tp : rc kt [.fz (ns.map .int)] [] = .ok (.obj 0) (Tp ns 0 0)) (wf : WideFn2 rc kw ns) (nf : NamesFn rc kn ns) (dr : DrawOk rc kd ns)
    (sf : ∀ (k : Bk) (S : Sto), BkOk k → rc ks [k.d] S = .ok (.str k.text) S) (xf : ∀ (k : Bk) (S : Sto), BkOk k → rc kx [k.d] S = .ok (.str k.text) S) (rf : ∀ (k : Bk) (S : Sto), BkOk k → k.Rise → ∃ S2, rc kr [.str k.text] S = .ok k.d S2) (jf : ∀ (k : Bk) (S : Sto), BkOk k → k.Rise → rc ki [k.d] S = .ok (.bl true) S) {N : Env → Sto → Prop} :
    Wo (evSs gl rc (law59 kt kw kn kd kx ks kr ki).body (startE (law59 kt kw kn kd kx ks kr ki).nl [.fz (ns.map .int)]) []) N fun d S => d = .bl true := by
  show Wo (evSs gl rc (law59 kt kw kn kd kx ks kr ki).body [some (.fz (ns.map .int)), none, none, none, none, none, none, none] []) N _
  unfold law59
  dsimp only
  rw [wo_cons]
  simp only [evS, evE, evEs, evAn, evOr, wo_outs, wo_nx, wo_rt, wr_bind, wr_ok, wo_ite, wr_ite, wr_lift, wr_tru, someEx, List.length_cons, List.length_nil, List.getElem?_cons_zero, List.getElem?_cons_succ, List.set_cons_zero, List.set_cons_succ, ix_lst, Nat.zero_add, Nat.reduceAdd, slB, isNon, D.isStr, if_true, evSl, evCs, tg_n, tg_t2, tg_t3, tg_t4, Tg.slots, Tg.slotss, wipeE, wr_noexc, Option.map_some, Option.bind_some, reduceIte, tp]
  have h0 : StB ns 0 (Tp ns 0 0) := ⟨0, 0, by decide, by decide, rfl⟩
  revert h0
  generalize Tp ns 0 0 = S0
  intro h0
  rw [wo_cons]
  simp only [evS, evE, evEs, evAn, evOr, wo_outs, wo_nx, wo_rt, wr_bind, wr_ok, wo_ite, wr_ite, wr_lift, wr_tru, someEx, List.length_cons, List.length_nil, List.getElem?_cons_zero, List.getElem?_cons_succ, List.set_cons_zero, List.set_cons_succ, ix_lst, Nat.zero_add, Nat.reduceAdd, slB, isNon, D.isStr, if_true, evSl, evCs, tg_n, tg_t2, tg_t3, tg_t4, Tg.slots, Tg.slotss, wipeE, wr_noexc, Option.map_some, Option.bind_some, reduceIte, items_lst, rng1 (show (0 : Int) ≤ 3 by decide) (show (3 : Int) ≤ 16777216 by decide)]
  refine wr_map (I := fun i S => StB ns (600 * i) S) (P := fun _ _ y => ∃ k : Bk, y = k.d ∧ BkOk k ∧ k.Rise) (k := 0) (by simpa using h0) (fun i d S hd hi => ?_) fun r S1 h1 rl rp => ?_
  · obtain ⟨rfl, lt⟩ := range_get hd
    have lt : i < 3 := lt
    simp only [evS, evE, evEs, evAn, evOr, wo_outs, wo_nx, wo_rt, wr_bind, wr_ok, wo_ite, wr_ite, wr_lift, wr_tru, someEx, List.length_cons, List.length_nil, List.getElem?_cons_zero, List.getElem?_cons_succ, List.set_cons_zero, List.set_cons_succ, ix_lst, Nat.zero_add, Nat.reduceAdd, slB, isNon, D.isStr, if_true, evSl, evCs, tg_n, tg_t2, tg_t3, tg_t4, Tg.slots, Tg.slotss, wipeE, wr_noexc, Option.map_some, Option.bind_some, reduceIte]
    refine wr_mono (wf _ S hi (by omega)) fun d S ⟨⟨k, e, ok⟩, h⟩ => ?_
    first
      | exact ⟨h.up (by omega), k, e, ok⟩
      | exact ⟨h.up (by omega), _, rfl, k, e, ok⟩
  · rw [List.length_map, List.length_range] at rl
    have rl : r.length = 3 := rl
    obtain ⟨ks', er, lr, pr⟩ := unmapP (f := Bk.d) (P := fun _ k => BkOk k ∧ k.Rise) (r := r) (fun i y hy => by
      have lt : i < 3 := by
        rw [← rl]
        exact (List.getElem?_eq_some_iff.mp hy).1
      exact rp i _ y (range_at (n := 3) lt) hy)
    subst er
    rw [wo_cons]
    have h1 : StB ns 1800 S1 := h1.up (by rw [List.length_map, List.length_range]; decide)
    simp only [evS, evE, evEs, evAn, evOr, wo_outs, wo_nx, wo_rt, wr_bind, wr_ok, wo_ite, wr_ite, wr_lift, wr_tru, someEx, List.length_cons, List.length_nil, List.getElem?_cons_zero, List.getElem?_cons_succ, List.set_cons_zero, List.set_cons_succ, ix_lst, Nat.zero_add, Nat.reduceAdd, slB, isNon, D.isStr, if_true, evSl, evCs, tg_n, tg_t2, tg_t3, tg_t4, Tg.slots, Tg.slotss, wipeE, wr_noexc, Option.map_some, Option.bind_some, reduceIte]
    refine wr_mono (nf _ S1 h1 (by omega)) fun d S2 ⟨⟨ws, e, lw, nw, _⟩, h2⟩ => ?_
    subst e
    obtain ⟨w, ws', ew⟩ : ∃ w ws', ws = w :: ws' := by
      cases ws with
      | nil => cases lw
      | cons w t => exact ⟨w, t, rfl⟩
    subst ew
    have nw := nw w List.mem_cons_self
    simp only [List.map_cons, evS, evE, evEs, evAn, evOr, wo_outs, wo_nx, wo_rt, wr_bind, wr_ok, wo_ite, wr_ite, wr_lift, wr_tru, someEx, List.length_cons, List.length_nil, List.getElem?_cons_zero, List.getElem?_cons_succ, List.set_cons_zero, List.set_cons_succ, ix_lst, Nat.zero_add, Nat.reduceAdd, slB, isNon, D.isStr, if_true, evSl, evCs, tg_n, tg_t2, tg_t3, tg_t4, Tg.slots, Tg.slotss, wipeE, wr_noexc, Option.map_some, Option.bind_some, reduceIte, at0]
    rw [wo_cons]
    simp only [evS, evE, evEs, evAn, evOr, wo_outs, wo_nx, wo_rt, wr_bind, wr_ok, wo_ite, wr_ite, wr_lift, wr_tru, someEx, List.length_cons, List.length_nil, List.getElem?_cons_zero, List.getElem?_cons_succ, List.set_cons_zero, List.set_cons_succ, ix_lst, Nat.zero_add, Nat.reduceAdd, slB, isNon, D.isStr, if_true, evSl, evCs, tg_n, tg_t2, tg_t3, tg_t4, Tg.slots, Tg.slotss, wipeE, wr_noexc, Option.map_some, Option.bind_some, reduceIte]
    refine wr_mono (dr _ S2 3 h2 (by omega) (by decide) (by decide)) fun d S3 ⟨x, e, x0, x1, h3⟩ => ?_
    subst e
    have l3 : ks'.length = 3 := lr.trans rl
    simp only [evS, evE, evEs, evAn, evOr, wo_outs, wo_nx, wo_rt, wr_bind, wr_ok, wo_ite, wr_ite, wr_lift, wr_tru, someEx, List.length_cons, List.length_nil, List.getElem?_cons_zero, List.getElem?_cons_succ, List.set_cons_zero, List.set_cons_succ, ix_lst, Nat.zero_add, Nat.reduceAdd, slB, isNon, D.isStr, if_true, evSl, evCs, tg_n, tg_t2, tg_t3, tg_t4, Tg.slots, Tg.slotss, wipeE, wr_noexc, Option.map_some, Option.bind_some, reduceIte, List.length_map, l3]
    rw [if_pos (show 3 < sizeLine by decide)]
    obtain ⟨o4, r4⟩ := least_ok nw x0 x1
    have okA : ∀ k ∈ ks' ++ [Bk.mk w [(w, x)] []], BkOk k ∧ k.Rise := fun k hk => by
      rcases List.mem_append.mp hk with q | q
      · obtain ⟨i, hi⟩ := List.mem_iff_getElem?.mp q
        exact pr i k hi
      · rw [List.mem_singleton.mp q]
        exact ⟨o4, r4⟩
    have eb : ks'.map Bk.d ++ [.tup [.str w, .tup [.tup [.str w, .int x]], .tup []]] = (ks' ++ [Bk.mk w [(w, x)] []]).map Bk.d := by
      rw [List.map_append]
      rfl
    rw [eb]
    have lb : (ks' ++ [Bk.mk w [(w, x)] []]).length = 4 := by
      rw [List.length_append, l3]
      rfl
    revert okA lb
    generalize ks' ++ [Bk.mk w [(w, x)] []] = books
    intro okA lb
    rw [wo_cons]
    have c1 : cutD (books.map Bk.d) none (some 1) = (books.take 1).map Bk.d := by
      rw [cut_to _ (show (0 : Int) ≤ 1 by decide), ← List.map_take]
      rfl
    have ad : evBin .add (.lst (books.map Bk.d)) (.lst ((books.take 1).map Bk.d)) = some (.lst ((books ++ books.take 1).map Bk.d)) := by
      rw [add_lst (by rw [List.length_map, List.length_map, List.length_take, lb, sizeLine_eq]; omega), List.map_append]
    simp only [evIt, evS, evE, evEs, evAn, evOr, wo_outs, wo_nx, wo_rt, wr_bind, wr_ok, wo_ite, wr_ite, wr_lift, wr_tru, someEx, List.length_cons, List.length_nil, List.getElem?_cons_zero, List.getElem?_cons_succ, List.set_cons_zero, List.set_cons_succ, ix_lst, Nat.zero_add, Nat.reduceAdd, slB, isNon, D.isStr, if_true, evSl, evCs, tg_n, tg_t2, tg_t3, tg_t4, Tg.slots, Tg.slotss, wipeE, wr_noexc, Option.map_some, Option.bind_some, reduceIte, c1, ad, items_lst]
    refine wo_for (I := fun i env S' => ∃ x4 x5 x6 x7, env = [some (.fz (ns.map .int)), some (.obj 0), some (.lst (books.map Bk.d)), some (.str w), x4, x5, x6, x7]) (k := 0) ⟨_, _, _, _, rfl⟩ (fun i d env S' hd ⟨x4, x5, x6, x7, ee⟩ => ?_) fun env S' ⟨x4, x5, x6, x7, ee⟩ => ?_
    · subst ee
      obtain ⟨k, hk, rfl⟩ := List.mem_map.mp (List.mem_of_getElem? hd)
      obtain ⟨nk, rk⟩ : BkOk k ∧ k.Rise := by
        rcases List.mem_append.mp hk with q | q
        · exact okA k q
        · exact okA k (List.mem_of_mem_take q)
      obtain ⟨rs, er⟩ := repr_bk nk
      simp only [evS, evE, evEs, evAn, evOr, wo_outs, wo_nx, wo_rt, wr_bind, wr_ok, wo_ite, wr_ite, wr_lift, wr_tru, someEx, List.length_cons, List.length_nil, List.getElem?_cons_zero, List.getElem?_cons_succ, List.set_cons_zero, List.set_cons_succ, ix_lst, Nat.zero_add, Nat.reduceAdd, slB, isNon, D.isStr, if_true, evSl, evCs, tg_n, tg_t2, tg_t3, tg_t4, Tg.slots, Tg.slotss, wipeE, wr_noexc, Option.map_some, Option.bind_some, reduceIte]
      rw [wo_cons]
      simp only [evIt, evS, evE, evEs, evAn, evOr, wo_outs, wo_nx, wo_rt, wr_bind, wr_ok, wo_ite, wr_ite, wr_lift, wr_tru, someEx, List.length_cons, List.length_nil, List.getElem?_cons_zero, List.getElem?_cons_succ, List.set_cons_zero, List.set_cons_succ, ix_lst, Nat.zero_add, Nat.reduceAdd, slB, isNon, D.isStr, if_true, evSl, evCs, tg_n, tg_t2, tg_t3, tg_t4, Tg.slots, Tg.slotss, wipeE, wr_noexc, Option.map_some, Option.bind_some, reduceIte, xf k _ nk, sf k _ nk, items_tup]
      refine wo_for (I := fun i env S' => ∃ x5 x6 x7, env = [some (.fz (ns.map .int)), some (.obj 0), some (.lst (books.map Bk.d)), some (.str w), some k.d, x5, x6, x7]) (k := 0) ⟨_, _, _, rfl⟩ (fun i d env S' hd ⟨x5, x6, x7, ee⟩ => ?_) fun env S' ⟨x5, x6, x7, ee⟩ => ?_
      · subst ee
        obtain rfl : d = .str k.text := by
          have : d = .str k.text ∨ d = .str k.text := by simpa using List.mem_of_getElem? hd
          exact this.elim id id
        simp only [evS, evE, evEs, evAn, evOr, wo_outs, wo_nx, wo_rt, wr_bind, wr_ok, wo_ite, wr_ite, wr_lift, wr_tru, someEx, List.length_cons, List.length_nil, List.getElem?_cons_zero, List.getElem?_cons_succ, List.set_cons_zero, List.set_cons_succ, ix_lst, Nat.zero_add, Nat.reduceAdd, slB, isNon, D.isStr, if_true, evSl, evCs, tg_n, tg_t2, tg_t3, tg_t4, Tg.slots, Tg.slotss, wipeE, wr_noexc, Option.map_some, Option.bind_some, reduceIte]
        rw [wo_cons]
        obtain ⟨S4, e4⟩ := rf k S' nk rk
        simp only [evS, evE, evEs, evAn, evOr, wo_outs, wo_nx, wo_rt, wr_bind, wr_ok, wo_ite, wr_ite, wr_lift, wr_tru, someEx, List.length_cons, List.length_nil, List.getElem?_cons_zero, List.getElem?_cons_succ, List.set_cons_zero, List.set_cons_succ, ix_lst, Nat.zero_add, Nat.reduceAdd, slB, isNon, D.isStr, if_true, evSl, evCs, tg_n, tg_t2, tg_t3, tg_t4, Tg.slots, Tg.slotss, wipeE, wr_noexc, Option.map_some, Option.bind_some, reduceIte, e4]
        rw [wo_cons]
        simp only [evS, evE, evEs, evAn, evOr, wo_outs, wo_nx, wo_rt, wr_bind, wr_ok, wo_ite, wr_ite, wr_lift, wr_tru, someEx, List.length_cons, List.length_nil, List.getElem?_cons_zero, List.getElem?_cons_succ, List.set_cons_zero, List.set_cons_succ, ix_lst, Nat.zero_add, Nat.reduceAdd, slB, isNon, D.isStr, if_true, evSl, evCs, tg_n, tg_t2, tg_t3, tg_t4, Tg.slots, Tg.slotss, wipeE, wr_noexc, Option.map_some, Option.bind_some, reduceIte]
        rw [wo_cons]
        simp only [evS, evE, evEs, evAn, evOr, wo_outs, wo_nx, wo_rt, wr_bind, wr_ok, wo_ite, wr_ite, wr_lift, wr_tru, someEx, List.length_cons, List.length_nil, List.getElem?_cons_zero, List.getElem?_cons_succ, List.set_cons_zero, List.set_cons_succ, ix_lst, Nat.zero_add, Nat.reduceAdd, slB, isNon, D.isStr, if_true, evSl, evCs, tg_n, tg_t2, tg_t3, tg_t4, Tg.slots, Tg.slotss, wipeE, wr_noexc, Option.map_some, Option.bind_some, reduceIte, er, ne_str, beq_self_eq_true, Bool.not_true, jf k _ nk rk, decide_true, sf k _ nk, wo_nil, Bool.false_eq_true]
        exact ⟨_, _, _, rfl⟩
      · subst ee
        rw [wo_nil]
        exact ⟨_, _, _, _, rfl⟩
    · subst ee
      rw [wo_cons]
      simp only [evS, evE, evEs, evAn, evOr, wo_outs, wo_nx, wo_rt, wr_bind, wr_ok, wo_ite, wr_ite, wr_lift, wr_tru, someEx, List.length_cons, List.length_nil, List.getElem?_cons_zero, List.getElem?_cons_succ, List.set_cons_zero, List.set_cons_succ, ix_lst, Nat.zero_add, Nat.reduceAdd, slB, isNon, D.isStr, if_true, evSl, evCs, tg_n, tg_t2, tg_t3, tg_t4, Tg.slots, Tg.slotss, wipeE, wr_noexc, Option.map_some, Option.bind_some, reduceIte]
end VE

set_option Elab.async false
set_option linter.all false
set_option maxRecDepth 100000
set_option maxHeartbeats 4000000
/-! the two parts joined -/
namespace VP59
open PySem PySem.Spec PyProof.Rows L2 VE
theorem showF_ok (n : Nat) (k : Bk) (S : Sto) (ok : BkOk k) : run P.prog (n + 5) 18 [k.d] S = .ok (.str k.text) S := show_ok (kr := 17) (kw := 16) (k1 := 2) (k2 := 1) rfl rfl rfl rfl rfl ok.t
theorem textF_ok (n : Nat) (k : Bk) (S : Sto) (ok : BkOk k) : run P.prog (n + 3) 41 [k.d] S = .ok (.str k.text) S := text_ok (kl := 40) (k1 := 39) rfl rfl rfl ok.t
theorem isF_ok (n : Nat) (k : Bk) (S : Sto) (ok : BkOk k) (rise : k.Rise) : run P.prog (n + 6) 13 [k.d] S = .ok (.bl true) S :=
  bbook_ok (k0 := 0) (k5 := 5) (k6 := 6) (k7 := 7) (k8 := 8) (k9 := 9) (k10 := 10) (k11 := 11) (k12 := 12) (g := 4) (g1 := 1) (g2 := 2) (g3 := 3) (g5 := 5) (g6 := 6) rfl rfl rfl rfl rfl rfl rfl rfl rfl rfl rfl rfl rfl rfl rfl rfl ok rise
theorem ruleF_ok (n : Nat) (r : Rl) (S : Sto) (h : RlG r) : run P.prog (n + 5) 21 [.str r.row] S = .ok r.d S :=
  ruleBy_go (n := n + 4) (k9 := 9) (k15 := 15) (k17 := 17) (k20 := 20) rfl h (num_ok (n := n + 3) (g := 7) rfl rfl h.ok.1 (by have := h.ok.2.1; omega))
    (conds_ok (n := n) (k3 := 3) (k4 := 4) (k15 := 15) (k19 := 19) (g := 0) (g' := 7) rfl rfl rfl rfl rfl rfl rfl h.ok.2.2.1 h.ok.2.2.2.2)
    (brule_ok (n := n) (k0 := 0) (k5 := 5) (k6 := 6) (k7 := 7) (k8 := 8) (g := 4) (g1 := 1) (g2 := 2) (g3 := 3) rfl rfl rfl rfl rfl rfl rfl rfl rfl rfl h.ok h.nm h.so) (row_ok (n := n) (kw := 16) (k1 := 2) (k2 := 1) rfl rfl rfl rfl h.t)
theorem readF_ok (n : Nat) (k : Bk) (S : Sto) (ok : BkOk k) (rise : k.Rise) : ∃ S2, run P.prog (n + 8) 29 [.str k.text] S = .ok k.d S2 :=
  read_ok (m := n + 6) (k14 := 14) (k23 := 23) (k28 := 28) rfl rfl rfl ok fun i row hr => take_step (m := n + 4) (k21 := 21) (k22 := 22) (k24 := 24) (k25 := 25) (k26 := 26) (k27 := 27) (g := 9)
    (fun p S h => rateBy_ok (n := n + 3) (k5 := 5) (k15 := 15) (g := 8) (g' := 7) (g1 := 1) (g2 := 2) rfl rfl rfl rfl rfl rfl rfl h) (fun w S h => rateBy_base (n := n + 4) (k5 := 5) (k15 := 15) (g := 8) rfl h) (fun r S h => ruleF_ok n r S h) rfl rfl rfl rfl rfl rfl ok rise hr
theorem plain (ns : List Int) (l : ns.length ≤ 63) : ∃ S, run P.prog 20 42 [.fz (ns.map .int)] [] = .ok (.bl true) S := by
  have h : Wr (run P.prog 20 42 [.fz (ns.map .int)] []) fun d _ => d = .bl true := by
    refine wr_run (F := law59 30 38 33 31 41 18 29 13) rfl rfl (wo_mono (law59_ok (ns := ns) (tape_ok rfl l) (fun b S h hb => wide_ok2 (n := 13) (ko := 34) (kb := 37) (kn := 33) (kr := 36) (kc := 35) (kd := 31) (kp := 32) rfl rfl rfl rfl rfl rfl rfl rfl h hb)
      (fun b S h hb => names_ok (n := 17) (kd := 31) rfl rfl h hb) (draw_ok (n := 18) rfl)
      (fun k S ok => showF_ok 14 k S ok) (fun k S ok => textF_ok 16 k S ok) (fun k S ok r => readF_ok 11 k S ok r) (fun k S ok r => isF_ok 13 k S ok r) (N := fun _ _ => False)) (fun _ _ z => z.elim) fun _ _ z => z)
  obtain ⟨a, S, e, rfl⟩ := wr_get h
  exact ⟨S, e⟩
theorem done : PySem.Challenge.rw_hourcoin_k59_whole_books_read_back.Holds := fin plain
end VP59

set_option maxHeartbeats 4000000
theorem PySem.Challenge.cw_hourcoin_k59_whole_books_read_back_holds : PySem.Challenge.rw_hourcoin_k59_whole_books_read_back.Holds := by
  exact VP59.done
