import PyProof.Rows.All
import Wide.All
import OpenK.AllK
import Wide.FinOn
import HandS.ForMost
import HandS.Call
import HandS.CallLocal
import HandS.Comp
import HandS.Defaults
import HandS.Dict
import HandS.ExcIs
import HandS.ExcOwn
import HandS.IsInst
import HandS.Iter
import HandS.List
import HandS.More
import HandS.SetKeys
import HandS.SortRule
import HandS.Spec
import HandS.Style
import HandS.Text
import HandS.TupAny
import HandS.TupMul
import HandS.Wide
import HandS.WideBits
import HandS.Words
import HandS.WordsExc
import HandS.Zip
import KE.KDictZip
import PyProof.ExcBaseAll.ValueError
import PySem.Challenge.RW_pushproof_k19_cut_joined_chosen
set_option Elab.async false
set_option linter.all false
set_option maxRecDepth 100000
set_option autoImplicit false
namespace DL
open PySem PySem.Spec PyProof.Rows L2
/-! ## keys: whole numbers, texts, tuples of keys -/
inductive NK where
  | int (i : Int) | str (x : Str) | tup (ks : List NK)
mutual
def NK.deq : (a b : NK) → Decidable (a = b)
  | .int i, .int j => if h : i = j then .isTrue (by rw [h]) else .isFalse fun e => h (by injection e)
  | .str x, .str y => if h : x = y then .isTrue (by rw [h]) else .isFalse fun e => h (by injection e)
  | .tup xs, .tup ys => match NK.deqs xs ys with
    | .isTrue h => .isTrue (by rw [h])
    | .isFalse h => .isFalse fun e => h (by injection e)
  | .int _, .str _ => .isFalse fun e => by cases e
  | .int _, .tup _ => .isFalse fun e => by cases e
  | .str _, .int _ => .isFalse fun e => by cases e
  | .str _, .tup _ => .isFalse fun e => by cases e
  | .tup _, .int _ => .isFalse fun e => by cases e
  | .tup _, .str _ => .isFalse fun e => by cases e
def NK.deqs : (a b : List NK) → Decidable (a = b)
  | [], [] => .isTrue rfl
  | [], _ :: _ => .isFalse fun e => by cases e
  | _ :: _, [] => .isFalse fun e => by cases e
  | a :: as, b :: bs => match NK.deq a b with
    | .isFalse h => .isFalse fun e => h (by injection e)
    | .isTrue h => match NK.deqs as bs with
      | .isTrue g => .isTrue (by rw [h, g])
      | .isFalse g => .isFalse fun e => g (by injection e)
end
instance : DecidableEq NK := NK.deq
mutual
def NK.dep : NK → Nat
  | .int _ => 0
  | .str _ => 0
  | .tup ks => NK.deps ks + 1
def NK.deps : List NK → Nat
  | [] => 0
  | k :: ks => max (NK.dep k) (NK.deps ks)
end
theorem NK.dep_le : ∀ {ks : List NK} {k : NK}, k ∈ ks → k.dep ≤ NK.deps ks
  | [], _, h => by cases h
  | j :: ks, k, h => by
    simp only [NK.deps]
    rcases List.mem_cons.mp h with rfl | h
    · exact Nat.le_max_left _ _
    · exact Nat.le_trans (NK.dep_le h) (Nat.le_max_right _ _)
mutual
/-- induction over keys, with all items of a tuple at once -/
theorem NK.ind {P : NK → Prop} (hi : ∀ i, P (.int i)) (hs : ∀ x, P (.str x)) (ht : ∀ ks, (∀ k ∈ ks, P k) → P (.tup ks)) : ∀ k, P k
  | .int i => hi i
  | .str x => hs x
  | .tup ks => ht ks (NK.inds hi hs ht ks)
theorem NK.inds {P : NK → Prop} (hi : ∀ i, P (.int i)) (hs : ∀ x, P (.str x)) (ht : ∀ ks, (∀ k ∈ ks, P k) → P (.tup ks)) : ∀ ks : List NK, ∀ k ∈ ks, P k
  | [], k, h => by cases h
  | j :: ks, k, h => by
    rcases List.mem_cons.mp h with e | h
    · rw [e]; exact NK.ind hi hs ht j
    · exact NK.inds hi hs ht ks k h
end
/-- a key stands at a value -/
def NKs (P : NK → Value → Prop) : List NK → List Value → Prop
  | [], us => us = []
  | k :: ks, us => ∃ u r, us = u :: r ∧ P k u ∧ NKs P ks r
mutual
def NKAt (h : Heap) : NK → Value → Prop
  | .int i, u => ∃ t, u = .int i t
  | .str x, u => ∃ t, u = .str x t
  | .tup ks, u => ∃ a its, u = .ref a ∧ IsTup h a its ∧ NKAts h ks its.toList
def NKAts (h : Heap) : List NK → List Value → Prop
  | [], us => us = []
  | k :: ks, us => ∃ u r, us = u :: r ∧ NKAt h k u ∧ NKAts h ks r
end
section
variable {h h' : Heap}
theorem NKAts.len : ∀ {ks : List NK} {us : List Value}, NKAts h ks us → us.length = ks.length
  | [], us, e => by simp only [NKAts] at e; rw [e]; rfl
  | k :: ks, us, e => by
    simp only [NKAts] at e
    obtain ⟨u, r, rfl, _, q⟩ := e
    simp [NKAts.len q]
theorem NKAts.get : ∀ {ks : List NK} {us : List Value} (j : Nat) (h1 : j < ks.length) (h2 : j < us.length), NKAts h ks us → NKAt h ks[j] us[j]
  | [], _, j, h1, _, _ => by simp at h1
  | k :: ks, us, j, h1, h2, e => by
    simp only [NKAts] at e
    obtain ⟨u, r, rfl, q1, q2⟩ := e
    cases j with
    | zero => exact q1
    | succ j => exact NKAts.get j (by simpa using h1) (by simpa using h2) q2
theorem NKAt.inj : ∀ (x : NK) {y : NK} {u : Value}, NKAt h x u → NKAt h y u → x = y := by
  refine NK.ind (fun i y u h1 h2 => ?_) (fun z y u h1 h2 => ?_) fun ks ih y u h1 h2 => ?_
  · simp only [NKAt] at h1
    obtain ⟨t, rfl⟩ := h1
    cases y <;> simp only [NKAt] at h2
    · obtain ⟨t2, e⟩ := h2; cases e; rfl
    · obtain ⟨t2, e⟩ := h2; cases e
    · obtain ⟨a, its, e, _⟩ := h2; cases e
  · simp only [NKAt] at h1
    obtain ⟨t, rfl⟩ := h1
    cases y <;> simp only [NKAt] at h2
    · obtain ⟨t2, e⟩ := h2; cases e
    · obtain ⟨t2, e⟩ := h2; cases e; rfl
    · obtain ⟨a, its, e, _⟩ := h2; cases e
  · simp only [NKAt] at h1
    obtain ⟨a, its, rfl, ⟨o, e1, _, n, e2⟩, q⟩ := h1
    cases y with
    | int _ => simp only [NKAt] at h2; obtain ⟨_, e⟩ := h2; cases e
    | str _ => simp only [NKAt] at h2; obtain ⟨_, e⟩ := h2; cases e
    | tup js =>
      simp only [NKAt] at h2
      obtain ⟨b, its', e, ⟨o', e3, _, n', e4⟩, q'⟩ := h2
      cases e
      rw [e1] at e3; cases e3
      rw [e2] at e4
      injection e4 with e5 _
      subst e5
      have go : ∀ (ks js : List NK) (us : List Value), (∀ k ∈ ks, ∀ {y : NK} {u : Value}, NKAt h k u → NKAt h y u → k = y) → NKAts h ks us → NKAts h js us → ks = js := by
        intro ks
        induction ks with
        | nil =>
          intro js us _ p1 p2
          simp only [NKAts] at p1
          subst p1
          cases js with
          | nil => rfl
          | cons _ _ => simp only [NKAts] at p2; obtain ⟨_, _, e, _⟩ := p2; cases e
        | cons k ks ih2 =>
          intro js us H p1 p2
          simp only [NKAts] at p1
          obtain ⟨u, r, rfl, p3, p4⟩ := p1
          cases js with
          | nil => simp only [NKAts] at p2; cases p2
          | cons j js =>
            simp only [NKAts] at p2
            obtain ⟨u', r', e, p5, p6⟩ := p2
            cases e
            rw [H k (by simp) p3 p5, ih2 js r (fun k' hk => H k' (by simp [hk])) p4 p6]
      rw [go ks js _ (fun k hk {_ _} a b => ih k hk a b) q q']
theorem NKAt.keep (kp : ∀ a its, IsTup h a its → IsTup h' a its) : ∀ (x : NK) {u : Value}, NKAt h x u → NKAt h' x u := by
  refine NK.ind (fun i u h1 => ?_) (fun z u h1 => ?_) fun ks ih u h1 => ?_
  · simpa only [NKAt] using h1
  · simpa only [NKAt] using h1
  · simp only [NKAt] at h1 ⊢
    obtain ⟨a, its, rfl, q1, q2⟩ := h1
    refine ⟨a, its, rfl, kp a its q1, ?_⟩
    have go : ∀ (ks : List NK) (us : List Value), (∀ k ∈ ks, ∀ {u : Value}, NKAt h k u → NKAt h' k u) → NKAts h ks us → NKAts h' ks us := by
      intro ks
      induction ks with
      | nil => intro us _ p; simpa only [NKAts] using p
      | cons k ks ih2 =>
        intro us H p
        simp only [NKAts] at p ⊢
        obtain ⟨u, r, rfl, p1, p2⟩ := p
        exact ⟨u, r, rfl, H k (by simp) p1, ih2 r (fun k' hk => H k' (by simp [hk])) p2⟩
    exact go ks _ (fun k hk {_} a => ih k hk a) q2
end
/-! ### == of keys -/
theorem all_dec : ∀ (xs ys : List NK), ((List.range (min xs.length ys.length)).all (fun j => decide (xs[j]? = ys[j]?)) && xs.length == ys.length) = decide (xs = ys) := by
  intro xs ys
  by_cases e : xs = ys
  · subst e
    simp
  · rw [decide_eq_false e]
    by_cases l : xs.length = ys.length
    · have : ¬ ∀ j, xs[j]? = ys[j]? := fun q => e (List.ext_getElem? q)
      obtain ⟨j, hj⟩ := Classical.not_forall.mp this
      have hlt : j < xs.length := by
        apply Classical.byContradiction
        intro q
        exact hj (by rw [List.getElem?_eq_none (by omega), List.getElem?_eq_none (by omega)])
      rw [Bool.and_eq_false_iff]
      left
      rw [List.all_eq_false]
      exact ⟨j, by rw [List.mem_range]; omega, by simp [hj]⟩
    · simp [l]
open SeqAt in
theorem nk_eq {s : Shared} : ∀ (x : NK) {y : NK} {u v : Value} {A : Around}, A.units + x.dep < cLine → NKAt s.heap x u → NKAt s.heap y v → EqAt A s u v (decide (x = y)) := by
  refine NK.ind (fun i y u v A hu h1 h2 => ?_) (fun z y u v A hu h1 h2 => ?_) fun ks ih y u v A hu h1 h2 => ?_
  · simp only [NKAt] at h1
    obtain ⟨t, rfl⟩ := h1
    cases y with
    | int j =>
      simp only [NKAt] at h2
      obtain ⟨t2, rfl⟩ := h2
      have : decide (NK.int i = NK.int j) = (i == j) := by
        by_cases e : i = j
        · subst e; simp
        · rw [decide_eq_false (fun q => e (by injection q))]; simp [e]
      rw [this]
      exact EqAt.int_int i t j t2
    | str z =>
      simp only [NKAt] at h2
      obtain ⟨t2, rfl⟩ := h2
      rw [decide_eq_false (fun q => by cases q)]
      exact EqAt.int_str i t z t2
    | tup js =>
      simp only [NKAt] at h2
      obtain ⟨b, its, rfl, q, _⟩ := h2
      rw [decide_eq_false (fun q => by cases q)]
      exact EqAt.int_tuple i t (show s.heap.IsTuple b its from q) (by omega)
  · simp only [NKAt] at h1
    obtain ⟨t, rfl⟩ := h1
    cases y with
    | int j =>
      simp only [NKAt] at h2
      obtain ⟨t2, rfl⟩ := h2
      rw [decide_eq_false (fun q => by cases q)]
      exact EqAt.str_int z t j t2
    | str z' =>
      simp only [NKAt] at h2
      obtain ⟨t2, rfl⟩ := h2
      have : decide (NK.str z = NK.str z') = (z == z') := by
        by_cases e : z = z'
        · subst e; simp
        · rw [decide_eq_false (fun q => e (by injection q))]; simp [e]
      rw [this]
      exact EqAt.str_str z t z' t2
    | tup js =>
      simp only [NKAt] at h2
      obtain ⟨b, its, rfl, q, _⟩ := h2
      rw [decide_eq_false (fun q => by cases q)]
      exact EqAt.str_tuple z t (show s.heap.IsTuple b its from q) (by omega)
  · have hd : (NK.tup ks).dep = NK.deps ks + 1 := by simp only [NK.dep]
    rw [hd] at hu
    have h1' := h1
    simp only [NKAt] at h1
    obtain ⟨a, its, rfl, p1, p2⟩ := h1
    cases y with
    | int j =>
      simp only [NKAt] at h2
      obtain ⟨t2, rfl⟩ := h2
      rw [decide_eq_false (fun q => by cases q)]
      exact EqAt.tuple_int j t2 (show s.heap.IsTuple a its from p1) (by omega)
    | str z =>
      simp only [NKAt] at h2
      obtain ⟨t2, rfl⟩ := h2
      rw [decide_eq_false (fun q => by cases q)]
      exact EqAt.tuple_str z t2 (show s.heap.IsTuple a its from p1) (by omega)
    | tup js =>
      have h2' := h2
      simp only [NKAt] at h2
      obtain ⟨b, its', rfl, p3, p4⟩ := h2
      by_cases hab : a = b
      · subst hab
        rw [decide_eq_true (NKAt.inj _ h1' h2')]
        exact EqAt.same _
      · refine EqAt.of_refs hab ?_
        have l1 := p2.len
        have l2 := p4.len
        rw [Array.length_toList] at l1 l2
        have e0 := all_dec ks js
        have e1 : decide (NK.tup ks = NK.tup js) = decide (ks = js) := by
          by_cases e : ks = js
          · subst e; simp
          · rw [decide_eq_false e, decide_eq_false (fun q => e (by injection q))]
        rw [e1, ← e0, ← l1, ← l2]
        refine RcAt.tuples (show s.heap.IsTuple a its from p1) (show s.heap.IsTuple b its' from p3) (by omega) fun j g1 g2 => ?_
        have g1' : j < ks.length := by omega
        have g2' : j < js.length := by omega
        have q1 := p2.get j g1' (by simpa using g1)
        have q2 := p4.get j g2' (by simpa using g2)
        rw [Array.getElem_toList] at q1 q2
        have := ih ks[j] (List.getElem_mem g1') (A := A.in1) (by
          have := NK.dep_le (List.getElem_mem g1')
          show A.units + 1 + _ < _
          omega) q1 q2
        rw [List.getElem?_eq_getElem g1', List.getElem?_eq_getElem g2']
        simpa using this
end DL

set_option Elab.async false
set_option linter.all false
set_option maxRecDepth 100000
set_option autoImplicit false
namespace DL
open PySem PySem.Spec PyProof.Rows L2
mutual
def nkHash (w : World) : NK → Int
  | .int i => hashInt i
  | .str x => hashStr w x
  | .tup ks => reduceHash (Builtin.Tuple.tupleHashOf (nkHashs w ks))
def nkHashs (w : World) : List NK → List Int
  | [] => []
  | k :: ks => nkHash w k :: nkHashs w ks
end
mutual
def nkDraw : NK → Nat
  | .int _ => 1
  | .str _ => 1
  | .tup ks => nkDraws ks + 1
def nkDraws : List NK → Nat
  | [] => 0
  | k :: ks => nkDraw k + nkDraws ks
end
theorem nkHashs_app {w : World} : ∀ a b : List NK, nkHashs w (a ++ b) = nkHashs w a ++ nkHashs w b
  | [], b => rfl
  | x :: a, b => by
    show nkHashs w (x :: (a ++ b)) = _
    simp only [nkHashs, List.cons_append, nkHashs_app a b]
theorem nkDraws_app : ∀ a b : List NK, nkDraws (a ++ b) = nkDraws a + nkDraws b
  | [], b => by simp [nkDraws]
  | x :: a, b => by
    show nkDraws (x :: (a ++ b)) = _
    simp only [nkDraws, nkDraws_app a b]; omega
theorem nk_hash {prog : Program} {w : World} : ∀ (x : NK) {A : Around} {E : Value → Shared → Prop} {s : Shared} {u : Value} {Q : Int → Shared → Prop}, A.units + x.dep < cLine → NKAt s.heap x u → Q (nkHash w x) { s with toks := s.toks + nkDraw x } → wpAny (model prog w) A (pyHash u) Q E s := by
  refine NK.ind (fun i A E s u Q hu h1 h => ?_) (fun z A E s u Q hu h1 h => ?_) fun ks ih A E s u Q hu h1 h => ?_
  · simp only [NKAt] at h1
    obtain ⟨t, rfl⟩ := h1
    exact wpAny_pyHash_int h
  · simp only [NKAt] at h1
    obtain ⟨t, rfl⟩ := h1
    exact wpAny_pyHash_str h
  · have hd : (NK.tup ks).dep = NK.deps ks + 1 := by simp only [NK.dep]
    rw [hd] at hu
    simp only [NKAt] at h1
    obtain ⟨a, its, rfl, ⟨o, e1, e2, n, e3⟩, p2⟩ := h1
    have hT : s.TypeIs (.ref a) "tuple" := ⟨o, e1, e2⟩
    have hl : A.units < cLine := by omega
    unfold pyHash
    first | unfold pyHashByItsType | skip
    first | (refine wpAny_bind (wpAny_cRoomFor_or (.inr hl) ?_)) | skip
    refine wpAny_bind (wpAny_specialOf hT F.slot_tuple_hash.lookup ?_)
    show wpAny _ _ (if (some (Value.builtin "tuple.__hash__") == some Value.none) = true then _ else _) _ _ _
    rw [if_neg (by rw [beq_builtin_none]; decide)]
    refine wpAny_bind (wpAny_specialOf hT F.slot_tuple_hash.lookup ?_)
    show wpAny _ _ (callSpecialIfBoundUnlessNone? (Value.ref a) "__hash__" _ >>= _) _ _ _
    refine wpAny_bind (wpAny_callSpecialIfBoundUnlessNone?_slot hT F.slot_tuple_hash (wpAny_call_entry F.slot_tuple_hash hT F.entry_tuple_hash ?_ (F.args_tuple_hash_1 _)))
    show wpAny _ _ (Builtin.Tuple.tupleItemsOf (Value.ref a) >>= _) _ _ _
    refine wpAny_bind (wpAny_tupleItemsOf e1 e3 ?_)
    refine wpAny_bind ?_
    rw [← Array.forIn_toList]
    refine wpAny_forIn_list _ (fun rest (b : Array Int) s' => ∃ d l, ks = d ++ l ∧ NKAts s.heap l rest ∧ b.toList = nkHashs w d ∧ s' = { s with toks := s.toks + nkDraws d }) _ ?_ ?_ _ _ ⟨[], ks, rfl, p2, rfl, rfl⟩
    · rintro y rest b s' ⟨d, l, e, hl', hb, rfl⟩
      cases l with
      | nil => simp only [NKAts] at hl'; cases hl'
      | cons k l =>
        simp only [NKAts] at hl'
        obtain ⟨u', r', e', q1, q2⟩ := hl'
        cases e'
        have km : k ∈ ks := by rw [e]; simp
        have kd := NK.dep_le km
        refine wpAny_bind (ih k km (A := A.in1) (by show A.units + 1 + _ < _; omega) q1 ?_)
        have fin : ∃ d' l', ks = d' ++ l' ∧ NKAts s.heap l' rest ∧ (b.push (nkHash w k)).toList = nkHashs w d' ∧ ({ s with toks := s.toks + nkDraws d + nkDraw k } : Shared) = { s with toks := s.toks + nkDraws d' } :=
          ⟨d ++ [k], l, by rw [e]; simp, q2, by rw [nkHashs_app, Array.toList_push, hb]; simp [nkHashs], by rw [nkDraws_app]; simp [nkDraws, Nat.add_assoc]⟩
        first
          | exact wpAny_pure fin
          | exact wpAny_bind (wpAny_pure (wpAny_pure fin))
    · rintro b s' ⟨d, l, e, hl', hb, rfl⟩
      cases l with
      | cons k l => simp only [NKAts] at hl'; obtain ⟨_, _, z, _⟩ := hl'; cases z
      | nil =>
      rw [List.append_nil] at e
      subst e
      show wpAny _ _ (retInt (Builtin.Tuple.tupleHashOf b.toList)) _ _ _
      rw [hb]
      refine wpAny_ret_mkInt ?_
      simp only [nkHash, nkDraw] at h
      unfold reduceHash at h
      show wpAny _ _ (if (decide (-(2 : Int) ^ 63 ≤ Builtin.Tuple.tupleHashOf (nkHashs w ks)) && decide (Builtin.Tuple.tupleHashOf (nkHashs w ks) < 2 ^ 63)) = true then _ else _) Q E _
      by_cases hr : (decide (-(2 : Int) ^ 63 ≤ Builtin.Tuple.tupleHashOf (nkHashs w ks)) && decide (Builtin.Tuple.tupleHashOf (nkHashs w ks) < 2 ^ 63)) = true
      · rw [if_pos hr] at h ⊢
        exact wpAny_pure (by simpa [Nat.add_assoc] using h)
      · rw [if_neg hr] at h ⊢
        exact wpAny_bind (wpAny_rule (wpAny_pure (by simpa [Nat.add_assoc] using h)))
theorem nk_quiet {prog : Program} {w : World} : ∀ (x : NK) {m : Nat} {A : Around} {E : Value → Shared → Prop} {s : Shared} {u : Value} {Q : Bool → Shared → Prop}, x.dep ≤ m → NKAt s.heap x u → Q true s → wpAny (model prog w) A (eqIsQuiet m u) Q E s := by
  refine NK.ind (fun i m A E s u Q hm h1 h => ?_) (fun z m A E s u Q hm h1 h => ?_) fun ks ih m A E s u Q hm h1 h => ?_
  · simp only [NKAt] at h1
    obtain ⟨t, rfl⟩ := h1
    rw [eqIsQuiet_byValue m rfl]
    exact wpAny_pure h
  · simp only [NKAt] at h1
    obtain ⟨t, rfl⟩ := h1
    rw [eqIsQuiet_byValue m rfl]
    exact wpAny_pure h
  · have hd : (NK.tup ks).dep = NK.deps ks + 1 := by simp only [NK.dep]
    rw [hd] at hm
    obtain ⟨m, rfl⟩ : ∃ j, m = j + 1 := ⟨m - 1, by omega⟩
    simp only [NKAt] at h1
    obtain ⟨a, its, rfl, ⟨o, e1, e2, n, e3⟩, p2⟩ := h1
    have hT : s.TypeIs (.ref a) "tuple" := ⟨o, e1, e2⟩
    unfold eqIsQuiet
    refine wpAny_bind (wpAny_specialOf hT F.slot_tuple_eq.lookup ?_)
    show wpAny _ _ (isInstance (Value.ref a) (Value.type "tuple") >>= _) _ _ _
    refine wpAny_bind (wpAny_isInstance hT isSubtype_tuple_tuple ?_)
    simp only [Bool.not_true, Bool.false_eq_true, if_false]
    refine wpAny_bind (wpAny_seqItems e1 e3 ?_)
    refine wpAny_bind ?_
    show wpAny _ _ (forIn its _ _) _ _ _
    rw [← Array.forIn_toList]
    refine wpAny_forIn_list _ (fun rest r s' => r.1 = none ∧ s' = s ∧ ∃ l, (∀ k ∈ l, k ∈ ks) ∧ NKAts s.heap l rest) _ ?_ ?_ _ _ ⟨rfl, rfl, ks, fun _ z => z, p2⟩
    · rintro y rest r s' ⟨hr, rfl, l, hl, q⟩
      cases l with
      | nil => simp only [NKAts] at q; cases q
      | cons k l =>
        simp only [NKAts] at q
        obtain ⟨u', r', e', q1, q2⟩ := q
        cases e'
        have km := hl k (by simp)
        have kd := NK.dep_le km
        refine wpAny_bind (ih k km (by omega) q1 ?_)
        simp only [Bool.not_true, Bool.false_eq_true, if_false]
        exact wpAny_pure ⟨rfl, rfl, l, fun z hz => hl z (by simp [hz]), q2⟩
    · rintro ⟨r1, r2⟩ s' ⟨hr, rfl, _⟩
      simp only at hr
      subst hr
      exact wpAny_pure h
/-- the kind of dicts with such keys -/
def nkKind (prog : Program) (w : World) : HeapKind prog w NK where
  is := fun h k a => NKAt h k (.ref a) ∧ k.dep ≤ 8
  hash := nkHash w
  draws := nkDraw
  room := fun A => A.units + 10 < cLine
  inj := fun hx hy => NKAt.inj _ hx.1 hy.1
  keeps := fun {h h' k a d o es ep} x ho hd hs => ⟨NKAt.keep (fun b its ⟨o', e1, e2, n, e3⟩ => ⟨o', (hs.2 b (by
      rintro rfl
      rw [ho] at e1; cases e1
      rw [hd] at e3; cases e3)).trans e1, e2, n, e3⟩) k x.1, x.2⟩
  pyHash := fun {A E s k a Q} hu hk h => nk_hash k (by have := hk.2; omega) hk.1 h
  eqBool := fun {A E s x y a b Q} hu hx hy h => nk_eq x (by have := hx.2; omega) hx.1 hy.1 prog w E Q h
  quiet := fun {A E s k a Q} hk h => nk_quiet k hk.2 hk.1 h
end DL

set_option Elab.async false
set_option linter.all false
set_option maxRecDepth 100000
set_option autoImplicit false
/-! zip over two lists, its pairs stored whole: the last pair may be held, or gone -/
namespace L2
open PySem PySem.Spec PyProof.Rows
section
variable {prog : Program} {w : World} {A : Around} {E : Value → Shared → Prop} {s : Shared}
theorem dead_any {T : Addr} {Q : Option Obj → Shared → Prop} (ht : s.heap.get? T = none) (h : Q none s) : wpAny (model prog w) A (loadIfAlive T) Q E s := by
  have q : Q (s.heap.get? T) s := by rw [ht]; exact h
  exact fun _ _ _ => q
theorem free_dead {zo TI TO T : Addr} {f : Bool} {Q : Bool → Shared → Prop} (hzo : IsZipHeld s.heap zo TI TO T f) (ht : s.heap.get? T = none) (h : Q true s) : wpAny (model prog w) A (Builtin.SmallTypes.ownedTupleIsFree (.ref zo)) Q E s := by
  unfold Builtin.SmallTypes.ownedTupleIsFree
  refine wpAny_bind (wpAny_field hzo rfl (x := rawInt T) rfl ?_)
  show wpAny _ _ (loadIfAlive (Int.toNat (T : Int)) >>= _) _ _ _
  rw [Int.toNat_natCast]
  refine wpAny_bind (dead_any ht ?_)
  simp only [Option.isNone_none, if_true]
  exact wpAny_pure h
/-- the zip object amid a step -/
def ZMid (h : Heap) (zo TI TO : Addr) (f0 : Value) (f : Bool) : Prop := h.get? zo = some { cls := .type "zip", dict := none, data := .fields #[f0, .bool f, .bool false, .ref TI, .ref TO], slots := #[] }
theorem dead_next {zo TI TO T i1 i2 l1 l2 : Addr} {f : Bool} {m n : Nat} {us vs : Array Value} {u v a b : Value} {Q : Value → Shared → Prop} (D : ZipApart zo TI TO i1 i2 l1 l2)
    (hzo : IsZipHeld s.heap zo TI TO T f) (ht : s.heap.get? T = none) (hI : IsPair s.heap TI (.ref i1) (.ref i2)) (hO : IsPair s.heap TO a b)
    (w1 : s.heap.IsListIter i1 l1 m) (w2 : s.heap.IsListIter i2 l2 n) (wl1 : s.heap.IsList l1 us) (wl2 : s.heap.IsList l2 vs) (eu : us[m]? = some u) (ev : vs[n]? = some v)
    (hQ : ∀ h', IsZip h' zo TI TO (rawInt s.heap.objs.size) → IsPair h' TO u v → h'.IsListIter i1 l1 (m + 1) → h'.IsListIter i2 l2 (n + 1) → IsPair h' s.heap.objs.size u v → h'.objs.size = s.heap.objs.size + 1 →
      (∀ c o, c ≠ zo → c ≠ TO → c ≠ i1 → c ≠ i2 → s.heap.get? c = some o → h'.get? c = some o) → Q (.ref s.heap.objs.size) { s with heap := h' }) :
    wpAny (model prog w) A (Builtin.«zip.__next__» ⟨[.ref zo], []⟩) (fun fin s' => ∃ v, fin = .done (.ret v) ∧ Q v s') E s := by
  show wpAny _ _ (field (.ref zo) 2 >>= _) _ _ _
  refine wpAny_bind (wpAny_field hzo rfl (x := .bool false) rfl ?_)
  show wpAny _ _ (field (.ref zo) 3 >>= _) _ _ _
  refine wpAny_bind (wpAny_field hzo rfl (x := .ref TI) rfl ?_)
  refine wpAny_bind (wpAny_seqItems hI rfl ?_)
  show wpAny _ _ (Builtin.SmallTypes.ownedTupleIsFree (.ref zo) >>= _) _ _ _
  refine wpAny_bind (free_dead hzo ht ?_)
  simp only [if_true]
  refine wpAny_bind (wpAny_rule ?_)
  refine wpAny_bind (wpAny_field hzo rfl (x := .ref TO) rfl ?_)
  refine wpAny_bind (wpAny_setField_rec hzo (by simp) fun g1 z1 p1 => ?_)
  replace z1 : ZMid g1 zo TI TO .ellipsis f := z1
  refine wpAny_bind ?_
  simp only [List.zipIdx_cons, List.zipIdx_nil, List.forIn_cons, List.forIn_nil]
  -- the first part
  refine wpAny_bind (wpAny_bind (wpAny_onRaise ?_))
  show wpAny _ _ (Builtin.SmallTypes.nextOf (.ref i1) >>= _) _ _ _
  refine wpAny_bind (wpAny_nextOf_list_item (w1.extBut p1.extBut D.i1z) (wl1.extBut p1.extBut D.l1z) eu fun g2 j2 p2 => wpAny_pure ?_)
  have o2 : IsPair g2 TO a b := p2.extBut _ _ D.TOi1 (p1.extBut _ _ D.TOz hO)
  refine wpAny_bind (wpAny_seqItems o2 rfl ?_)
  refine wpAny_bind (wpAny_updateSeq_pair o2 fun g3 o3 p3 => ?_)
  replace o3 : IsPair g3 TO u b := o3
  refine wpAny_bind (wpAny_letGo (wpAny_pure ?_))
  -- the second part
  refine wpAny_bind (wpAny_bind (wpAny_onRaise ?_))
  show wpAny _ _ (Builtin.SmallTypes.nextOf (.ref i2) >>= _) _ _ _
  have w23 := ((w2.extBut p1.extBut D.i2z).extBut p2.extBut D.i12.symm).extBut p3.extBut D.TOi2.symm
  have wl23 := ((wl2.extBut p1.extBut D.l2z).extBut p2.extBut D.l2i1).extBut p3.extBut D.l2TO
  refine wpAny_bind (wpAny_nextOf_list_item w23 wl23 ev fun g4 j4 p4 => wpAny_pure ?_)
  have o4 : IsPair g4 TO u b := p4.extBut _ _ D.TOi2 o3
  refine wpAny_bind (wpAny_seqItems o4 rfl ?_)
  refine wpAny_bind (wpAny_updateSeq_pair o4 fun g5 o5 p5 => ?_)
  replace o5 : IsPair g5 TO u v := o5
  refine wpAny_bind (wpAny_letGo (wpAny_pure (wpAny_pure ?_)))
  -- a new pair of what is kept
  refine wpAny_bind (wpAny_seqItems o5 rfl ?_)
  refine wpAny_bind (wpAny_newTuple ?_)
  have sz5 : g5.objs.size = s.heap.objs.size := (((p5.1.trans p4.1).trans p3.1).trans p2.1).trans p1.1
  have z5 : ZMid g5 zo TI TO .ellipsis f := p5.extBut _ _ D.TOz.symm (p4.extBut _ _ D.i2z.symm (p3.extBut _ _ D.TOz.symm (p2.extBut _ _ D.i1z.symm z1)))
  have up5 : ∀ c o, c ≠ zo → c ≠ TO → c ≠ i1 → c ≠ i2 → s.heap.get? c = some o → g5.get? c = some o := fun c o n1 n2 n3 n4 q =>
    p5.extBut _ _ n2 (p4.extBut _ _ n4 (p3.extBut _ _ n2 (p2.extBut _ _ n3 (p1.extBut _ _ n1 q))))
  have w15 : g5.IsListIter i1 l1 (m + 1) := ((j2.extBut p3.extBut D.TOi1.symm).extBut p4.extBut D.i12).extBut p5.extBut D.TOi1.symm
  have w25 : g5.IsListIter i2 l2 (n + 1) := j4.extBut p5.extBut D.TOi2.symm
  have lz : zo < g5.objs.size := Heap.lt_size z5
  show wpAny _ _ (Builtin.SmallTypes.ownedTupleHandOut (.ref zo) (.ref g5.objs.size) >>= _) _ _ _
  refine wpAny_bind ?_
  unfold Builtin.SmallTypes.ownedTupleHandOut
  have z6 : ZMid (g5.push { cls := .type "tuple", data := .seq #[u, v] }) zo TI TO .ellipsis f := Heap.get?_push_of_some _ z5
  refine wpAny_bind (wpAny_setField_rec z6 (by simp) fun g7 z7 p7 => ?_)
  replace z7 : ZMid g7 zo TI TO (rawInt g5.objs.size) f := z7
  refine wpAny_setField_rec z7 (by simp) fun g8 z8 p8 => ?_
  replace z8 : IsZip g8 zo TI TO (rawInt g5.objs.size) := z8
  have up8 : ∀ c o, c ≠ zo → g5.get? c = some o → g8.get? c = some o := fun c o n1 q => p8.extBut _ _ n1 (p7.extBut _ _ n1 (Heap.get?_push_of_some _ q))
  have t8 : IsPair g8 g5.objs.size u v := p8.extBut _ _ (Nat.ne_of_gt lz) (p7.extBut _ _ (Nat.ne_of_gt lz) (Heap.get?_push_size _ rfl))
  have sz8 : g8.objs.size = g5.objs.size + 1 := by rw [p8.1, p7.1, Heap.size_push]
  rw [sz5] at z8 t8 sz8
  refine wpAny_pure ⟨_, rfl, ?_⟩
  show Q (.ref g5.objs.size) _
  rw [sz5]
  exact hQ g8 z8 (up8 _ _ D.TOz o5) (w15.at fun o q => up8 _ o D.i1z q) (w25.at fun o q => up8 _ o D.i2z q) t8 sz8 fun c o n1 n2 n3 n4 q => up8 c o n1 (up5 c o n1 n2 n3 n4 q)
theorem dead_stop {zo TI TO T i1 i2 l1 l2 : Addr} {f : Bool} {m n : Nat} {us vs : Array Value} {a b : Value} {Q : Fin → Shared → Prop} (hh : A.handled = none) (D : ZipApart zo TI TO i1 i2 l1 l2)
    (hzo : IsZipHeld s.heap zo TI TO T f) (ht : s.heap.get? T = none) (hI : IsPair s.heap TI (.ref i1) (.ref i2)) (hO : IsPair s.heap TO a b)
    (w1 : s.heap.IsListIter i1 l1 m) (w2 : s.heap.IsListIter i2 l2 n) (wl1 : s.heap.IsList l1 us) (wl2 : s.heap.IsList l2 vs) (hend : us[m]? = none ∨ vs[n]? = none)
    (hE : ∀ h' e, (∀ c o, c ≠ zo → c ≠ TO → c ≠ i1 → c ≠ i2 → s.heap.get? c = some o → h'.get? c = some o) → (∃ o, h'.get? e = some o ∧ o.cls = .type "StopIteration") → E (.ref e) { s with heap := h' }) :
    wpAny (model prog w) A (Builtin.«zip.__next__» ⟨[.ref zo], []⟩) Q E s := by
  show wpAny _ _ (field (.ref zo) 2 >>= _) _ _ _
  refine wpAny_bind (wpAny_field hzo rfl (x := .bool false) rfl ?_)
  show wpAny _ _ (field (.ref zo) 3 >>= _) _ _ _
  refine wpAny_bind (wpAny_field hzo rfl (x := .ref TI) rfl ?_)
  refine wpAny_bind (wpAny_seqItems hI rfl ?_)
  show wpAny _ _ (Builtin.SmallTypes.ownedTupleIsFree (.ref zo) >>= _) _ _ _
  refine wpAny_bind (free_dead hzo ht ?_)
  simp only [if_true]
  refine wpAny_bind (wpAny_rule ?_)
  refine wpAny_bind (wpAny_field hzo rfl (x := .ref TO) rfl ?_)
  refine wpAny_bind (wpAny_setField_rec hzo (by simp) fun g1 z1 p1 => ?_)
  replace z1 : ZMid g1 zo TI TO .ellipsis f := z1
  refine wpAny_bind ?_
  simp only [List.zipIdx_cons, List.zipIdx_nil, List.forIn_cons, List.forIn_nil]
  refine wpAny_bind (wpAny_bind (wpAny_onRaise ?_))
  show wpAny _ _ (Builtin.SmallTypes.nextOf (.ref i1) >>= _) _ _ _
  have w11 := w1.extBut p1.extBut D.i1z
  have wl11 := wl1.extBut p1.extBut D.l1z
  cases eu : us[m]? with
  | none =>
    refine wpAny_bind (wpAny_nextOf_list_end hh w11 wl11 eu fun g2 e p2 he => ?_)
    obtain ⟨oe, q1, q2⟩ := he
    have z2 : ZMid g2 zo TI TO .ellipsis f := p2 _ _ D.i1z.symm z1
    have ne : e ≠ zo := fun q => by
      subst q
      unfold ZMid at z2
      rw [z2] at q1
      cases q1
      simp at q2
    refine wpAny_setField_rec z2 (by simp) fun g3 _ p3 => hE g3 e (fun c o n1 _ n3 _ q => p3.extBut _ _ n1 (p2 _ _ n3 (p1.extBut _ _ n1 q))) ⟨oe, p3.extBut _ _ ne q1, q2⟩
  | some u =>
    have ev : vs[n]? = none := hend.elim (fun q => by rw [eu] at q; cases q) id
    refine wpAny_bind (wpAny_nextOf_list_item w11 wl11 eu fun g2 j2 p2 => wpAny_pure ?_)
    have o2 : IsPair g2 TO a b := p2.extBut _ _ D.TOi1 (p1.extBut _ _ D.TOz hO)
    refine wpAny_bind (wpAny_seqItems o2 rfl ?_)
    refine wpAny_bind (wpAny_updateSeq_pair o2 fun g3 o3 p3 => ?_)
    refine wpAny_bind (wpAny_letGo (wpAny_pure ?_))
    refine wpAny_bind (wpAny_bind (wpAny_onRaise ?_))
    show wpAny _ _ (Builtin.SmallTypes.nextOf (.ref i2) >>= _) _ _ _
    have w23 := ((w2.extBut p1.extBut D.i2z).extBut p2.extBut D.i12.symm).extBut p3.extBut D.TOi2.symm
    have wl23 := ((wl2.extBut p1.extBut D.l2z).extBut p2.extBut D.l2i1).extBut p3.extBut D.l2TO
    refine wpAny_bind (wpAny_nextOf_list_end hh w23 wl23 ev fun g4 e p4 he => ?_)
    obtain ⟨oe, q1, q2⟩ := he
    have z4 : ZMid g4 zo TI TO .ellipsis f := p4 _ _ D.i2z.symm (p3.extBut _ _ D.TOz.symm (p2.extBut _ _ D.i1z.symm z1))
    have ne : e ≠ zo := fun q => by
      subst q
      unfold ZMid at z4
      rw [z4] at q1
      cases q1
      simp at q2
    refine wpAny_setField_rec z4 (by simp) fun g5 _ p5 => hE g5 e (fun c o n1 n2 n3 n4 q => p5.extBut _ _ n1 (p4 _ _ n4 (p3.extBut _ _ n2 (p2.extBut _ _ n3 (p1.extBut _ _ n1 q))))) ⟨oe, p5.extBut _ _ ne q1, q2⟩
theorem dead_pyNext {zo TI TO T i1 i2 l1 l2 : Addr} {f : Bool} {m n : Nat} {us vs : Array Value} {u v a b : Value} {Q : Option Value → Shared → Prop} (D : ZipApart zo TI TO i1 i2 l1 l2)
    (hzo : IsZipHeld s.heap zo TI TO T f) (ht : s.heap.get? T = none) (hI : IsPair s.heap TI (.ref i1) (.ref i2)) (hO : IsPair s.heap TO a b)
    (w1 : s.heap.IsListIter i1 l1 m) (w2 : s.heap.IsListIter i2 l2 n) (wl1 : s.heap.IsList l1 us) (wl2 : s.heap.IsList l2 vs) (eu : us[m]? = some u) (ev : vs[n]? = some v)
    (hQ : ∀ h', IsZip h' zo TI TO (rawInt s.heap.objs.size) → IsPair h' TO u v → h'.IsListIter i1 l1 (m + 1) → h'.IsListIter i2 l2 (n + 1) → IsPair h' s.heap.objs.size u v → h'.objs.size = s.heap.objs.size + 1 →
      (∀ c o, c ≠ zo → c ≠ TO → c ≠ i1 → c ≠ i2 → s.heap.get? c = some o → h'.get? c = some o) → Q (some (.ref s.heap.objs.size)) { s with heap := h' }) : wpAny (model prog w) A (pyNext (.ref zo)) Q E s := by
  have ty : s.TypeIs (.ref zo) "zip" := ⟨_, hzo, rfl⟩
  unfold pyNext
  refine wpAny_bind (wpAny_attempt (wpAny_callSpecial?_slot (name := Str.ofString "__next__") ty F.slot_zip_next (wpAny_call_entry F.slot_zip_next ty F.entry_zip_next ?_ (F.args_zip_next_1 _))))
  exact dead_next D hzo ht hI hO w1 w2 wl1 wl2 eu ev fun h' a1 a2 a3 a4 a5 a6 a7 => wpAny_pure (hQ h' a1 a2 a3 a4 a5 a6 a7)
theorem dead_pyStop {zo TI TO T i1 i2 l1 l2 : Addr} {f : Bool} {m n : Nat} {us vs : Array Value} {a b : Value} {Q : Option Value → Shared → Prop} (hh : A.handled = none) (D : ZipApart zo TI TO i1 i2 l1 l2)
    (hzo : IsZipHeld s.heap zo TI TO T f) (ht : s.heap.get? T = none) (hI : IsPair s.heap TI (.ref i1) (.ref i2)) (hO : IsPair s.heap TO a b)
    (w1 : s.heap.IsListIter i1 l1 m) (w2 : s.heap.IsListIter i2 l2 n) (wl1 : s.heap.IsList l1 us) (wl2 : s.heap.IsList l2 vs) (hend : us[m]? = none ∨ vs[n]? = none)
    (hQ : ∀ h', (∀ c o, c ≠ zo → c ≠ TO → c ≠ i1 → c ≠ i2 → s.heap.get? c = some o → h'.get? c = some o) → Q none { s with heap := h' }) : wpAny (model prog w) A (pyNext (.ref zo)) Q E s := by
  have ty : s.TypeIs (.ref zo) "zip" := ⟨_, hzo, rfl⟩
  unfold pyNext
  refine wpAny_bind (wpAny_attempt (wpAny_callSpecial?_slot (name := Str.ofString "__next__") ty F.slot_zip_next (wpAny_call_entry F.slot_zip_next ty F.entry_zip_next ?_ (F.args_zip_next_1 _))))
  refine dead_stop hh D hzo ht hI hO w1 w2 wl1 wl2 hend fun h' e up he => ?_
  obtain ⟨o, q1, q2⟩ := he
  refine wpAny_bind (wpAny_isInstance (T := "StopIteration") (b := true) ⟨o, q1, q2⟩ isSubtype_stop ?_)
  exact wpAny_pure (hQ _ up)
end
theorem go_name {prog : Program} {w : World} {A : Around} {E : Value → Shared → Prop} {s : Shared} {x : Str} {pos : Pos} {it u : Value} {Q : Unit → Shared → Prop} (h : Q () s) : wpAny (model prog w) A (letOwnedTupleGo (.Name x pos) it u) Q E s := by
  unfold letOwnedTupleGo
  exact wpAny_pure h
theorem zip_self {prog : Program} {w : World} {A : Around} {E : Value → Shared → Prop} {s : Shared} {zo TI TO : Addr} {f0 : Value} {f : Bool} {Q : Value → Shared → Prop} (hz : ZMid s.heap zo TI TO f0 f) (h : Q (.ref zo) s) : wpAny (model prog w) A (pyIter (.ref zo)) Q E s := by
  have ty : s.TypeIs (.ref zo) "zip" := ⟨_, hz, rfl⟩
  refine wpAny_pyIter_slot ty F.slot_zip_iter (wpAny_call_entry F.slot_zip_iter ty F.entry_zip_iter ?_ (F.args_zip_iter_1 _))
  exact wpAny_pure ⟨_, rfl, "zip", _, ty, F.slot_zip_next.lookup, h⟩
theorem turn_zipN {P : Program} {w : World} {K : PySem.W.Frag} {nm : Str} {tpos : Pos} {a b zo TI TO i1 i2 : Addr} (D : ZipApart zo TI TO i1 i2 a b) :
    Turn P w K (.Name nm tpos) (Itz K a b) [zo, TI, TO, i1, i2] zo (fun i h => (IsZip h zo TI TO .none ∨ ∃ T f, IsZipHeld h zo TI TO T f) ∧ IsPair h TI (.ref i1) (.ref i2) ∧ (∃ x y, IsPair h TO x y) ∧ h.IsListIter i1 a i ∧ h.IsListIter i2 b i) where
  mem := by simp
  obj := by
    rintro i h ⟨hz, hI, ⟨x, y, hO⟩, ⟨o1, e1, _, d1⟩, ⟨o2, e2, _, d2⟩⟩ c hc
    simp only [List.mem_cons, List.not_mem_nil, or_false] at hc
    rcases hc with rfl | rfl | rfl | rfl | rfl
    · rcases hz with hz | ⟨T, f, hz⟩
      · exact ⟨_, hz, by simp⟩
      · exact ⟨_, hz, by simp⟩
    · exact ⟨_, hI, by simp⟩
    · exact ⟨_, hO, by simp⟩
    · exact ⟨o1, e1, fun v q => by rw [d1] at q; cases q⟩
    · exact ⟨o2, e2, fun v q => by rw [d2] at q; cases q⟩
  keep := by
    rintro i h h' ⟨hz, hI, ⟨x, y, hO⟩, w1, w2⟩ k
    refine ⟨?_, k _ (by simp) _ hI, ⟨x, y, k _ (by simp) _ hO⟩, w1.at fun o q => k _ (by simp) o q, w2.at fun o q => k _ (by simp) o q⟩
    rcases hz with hz | ⟨T, f, hz⟩
    · exact .inl (k _ (by simp) _ hz)
    · exact .inr ⟨T, f, k _ (by simp) _ hz⟩
  item := by
    intro X hP hw hK hc i pins s σ H E I hf st hg
    subst hP hw hK
    obtain ⟨hz, hI, ⟨x0, y0, hO⟩, w1, w2⟩ := st
    obtain ⟨xs, ys, x, y, hqx, hqy, hx, hy⟩ := hg
    obtain ⟨its, rv, p, _⟩ := I.list hqx
    obtain ⟨its2, rv2, p2, _⟩ := I.list hqy
    obtain ⟨u, hu, ru⟩ := rv.get hx
    obtain ⟨u2, hu2, ru2⟩ := rv2.get hy
    have lt : ∀ c ∈ [zo, TI, TO, i1, i2], c < s.heap.objs.size := by
      intro c hc
      simp only [List.mem_cons, List.not_mem_nil, or_false] at hc
      rcases hc with rfl | rfl | rfl | rfl | rfl
      · rcases hz with hz | ⟨T, f, hz⟩
        · exact Heap.lt_size hz
        · exact Heap.lt_size hz
      · exact Heap.lt_size hI
      · exact Heap.lt_size hO
      · obtain ⟨_, e1, _⟩ := w1; exact Heap.lt_size e1
      · obtain ⟨_, e2, _⟩ := w2; exact Heap.lt_size e2
    -- a step done: the state behind it
    have fin : ∀ h' : Heap, (∃ T f, IsZipHeld h' zo TI TO T f) → (∃ x y, IsPair h' TO x y) → h'.IsListIter i1 a (i + 1) → h'.IsListIter i2 b (i + 1) → IsPair h' s.heap.objs.size u u2 → (∀ c o, c ≠ zo → c ≠ TO → c ≠ i1 → c ≠ i2 → s.heap.get? c = some o → h'.get? c = some o) →
        ∃ v, some (Value.ref s.heap.objs.size) = some v ∧ wpAny (model X.prog X.w) X.A (letOwnedTupleGo (.Name nm tpos) (.ref zo) v) (fun _ s2 => ∃ x H', Inv X pins σ H' s2 ∧ RelV x v ∧ (Itz X.K a b).yld i H x H' ∧ ((IsZip s2.heap zo TI TO .none ∨ ∃ T f, IsZipHeld s2.heap zo TI TO T f) ∧ IsPair s2.heap TI (.ref i1) (.ref i2) ∧ (∃ x y, IsPair s2.heap TO x y) ∧ s2.heap.IsListIter i1 a (i + 1) ∧ s2.heap.IsListIter i2 b (i + 1)) ∧ ∀ b ∈ [zo, TI, TO, i1, i2], H' b = none) E { s with heap := h' } := by
      intro h' q1 q2 q3 q4 q5 q6
      refine ⟨_, rfl, go_name ?_⟩
      have new : ObjOk X.prog X.w (upd H s.heap.objs.size (.tup [x, y])) h' s.heap.objs.size (.tup [x, y]) :=
        ⟨by show 2 ≤ sizeLine; decide, [u, u2], .cons ru (.cons ru2 .nil), ⟨_, q5, rfl, _, rfl⟩⟩
      have I1 : Inv X pins σ (upd H s.heap.objs.size (.tup [x, y])) { s with heap := h' } :=
        I.turnedNew (t' := s.toks) (ch := [zo, TI, TO, i1, i2]) (fun c o hb q => q6 c o (fun z => hb (by simp [z])) (fun z => hb (by simp [z])) (fun z => hb (by simp [z])) (fun z => hb (by simp [z])) q) hf (Nat.le_refl _) new
      refine ⟨.ref s.heap.objs.size, _, I1, rfl, ⟨_, x, y, rfl, I.hok.fresh (Nat.le_refl _), rfl, fun l hl => by rw [I.list_inj hl hqx]; exact hx, fun l hl => by rw [I.list_inj hl hqy]; exact hy⟩, ⟨.inr q1, q6 _ _ D.TIz D.TITO D.TIi1 D.TIi2 hI, q2, q3, q4⟩, fun c hcm => ?_⟩
      rw [upd_ne (Nat.ne_of_lt (lt c hcm))]
      exact (hf c hcm).1
    have e1 : its.toArray[i]? = some u := by simpa using hu
    have e2 : its2.toArray[i]? = some u2 := by simpa using hu2
    rcases hz with hz | ⟨T, f, hz⟩
    · exact wpAny_pyNext_zip_item D hz hI hO w1 w2 p.isList p2.isList e1 e2 fun h' a1 a2 a3 a4 a5 _ a7 => fin h' ⟨_, false, a1⟩ ⟨_, _, a2⟩ a3 a4 a5 a7
    · cases ht : s.heap.get? T with
      | none => exact dead_pyNext D hz ht hI hO w1 w2 p.isList p2.isList e1 e2 fun h' a1 a2 a3 a4 a5 _ a7 => fin h' ⟨_, false, a1⟩ ⟨_, _, a2⟩ a3 a4 a5 a7
      | some oT => exact wpAny_pyNext_zip_item_held D hz ht hI w1 w2 p.isList p2.isList e1 e2 fun h' a1 a2 a3 a4 _ a6 => fin h' ⟨_, true, a1⟩ ⟨_, _, a6 _ _ D.TOz D.TOi1 D.TOi2 hO⟩ a2 a3 a4 fun c o n1 _ n3 n4 q => a6 c o n1 n3 n4 q
  done := by
    intro X hP hw hK hc i pins s σ H E I hf st hg
    subst hP hw hK
    obtain ⟨hz, hI, ⟨x0, y0, hO⟩, w1, w2⟩ := st
    obtain ⟨xs, ys, hqx, hqy, hend⟩ := hg
    obtain ⟨its, rv, p, _⟩ := I.list hqx
    obtain ⟨its2, rv2, p2, _⟩ := I.list hqy
    have l1 := rv.length
    have l2 := rv2.length
    have he : its.toArray[i]? = none ∨ its2.toArray[i]? = none := hend.elim (fun q => .inl (by simp; omega)) fun q => .inr (by simp; omega)
    have fin : ∀ h' : Heap, (∀ c o, c ≠ zo → c ≠ TO → c ≠ i1 → c ≠ i2 → s.heap.get? c = some o → h'.get? c = some o) → (none : Option Value) = none ∧ Inv X pins σ H { s with heap := h' } := fun h' q6 =>
      ⟨rfl, I.turnedL (t' := s.toks) (ch := [zo, TI, TO, i1, i2]) (fun c o hb q => q6 c o (fun z => hb (by simp [z])) (fun z => hb (by simp [z])) (fun z => hb (by simp [z])) (fun z => hb (by simp [z])) q) hf⟩
    have hd := I.ok.hd hc
    rcases hz with hz | ⟨T, f, hz⟩
    · exact wpAny_pyNext_zip_end hd D hz hI hO w1 w2 p.isList p2.isList he fin
    · cases ht : s.heap.get? T with
      | none => exact dead_pyStop hd D hz ht hI hO w1 w2 p.isList p2.isList he fin
      | some oT => exact wpAny_pyNext_zip_end_held hd D hz ht hI w1 w2 p.isList p2.isList he fun h' q => fin h' fun c o n1 _ n3 n4 e => q c o n1 n3 n4 e
  self := fun A i s Q E st h => by
    rcases st.1 with hz | ⟨T, f, hz⟩
    · exact wpAny_pyIter_zip hz h
    · exact zip_self hz h
theorem pi_zipN {X : Cx} {e e2 : Expr} {ta : TA} {p pos tpos : Pos} {nm : Str} (hg : Gl X "zip") (hm : X.mg "zip" = none) (ha : PA X [e, e2] ta)
    (hs : starEach [e, e2] X.env = (false, eval e X.env) :: starEach [e2] X.env := by rfl) (hpl : (backTo pos (starEach [e2] X.env)).any (·.1) = false := by rfl) :
    PI X (.Name nm tpos) (.Call (.Name "zip" p) [e, e2] [] pos) (iZip X.K ta) := by
  refine ⟨fun pins s σ H R I h => ?_⟩
  refine Call_ (ld_blt I hg hm PyProof.Rows.boot_zip (PyProof.Rows.callWith_type1 (thn (ha.run pos pins s σ H _ I h) fun us s1 ⟨vs, H1, I1, r1, q1⟩ => ?_) hs hpl))
  obtain ⟨a, b, xs, ys, rfl, hqx, hqy, q⟩ := q1
  cases r1 with
  | cons r rr =>
  cases rr with
  | cons r' rr =>
  cases rr
  cases r
  cases r'
  obtain ⟨its, rv, p1, _⟩ := I1.list hqx
  obtain ⟨its2, rv2, p2, _⟩ := I1.list hqy
  refine call_zip_2 p1.isList p2.isList fun h' hz hI hO w1 w2 hsz hk => zip_self (f := false) hz ?_
  have I2 : Inv X pins σ H1 { s1 with heap := h' } := I1.kept (t' := s1.toks) hk
  generalize hn : s1.heap.objs.size = n at hz hI hO w1 w2
  refine ⟨n + 4, [n + 4, n + 2, n + 3, n, n + 1], _, _, H1, rfl, I2, turn_zipN (PySem.W.ktu_apart n a b (hn ▸ p1.lt) (hn ▸ p2.lt)), ⟨.inl hz, hI, ⟨_, _, hO⟩, w1, w2⟩, fun c hcm => ?_, q⟩
  have hle : s1.heap.objs.size ≤ c := by
    rw [hn]
    simp only [List.mem_cons, List.not_mem_nil, or_false] at hcm
    rcases hcm with rfl | rfl | rfl | rfl | rfl <;> first | exact Nat.le_refl _ | exact Nat.le_add_right _ _
  exact I1.fpOk hle (I1.hok.fresh hle)
end L2

set_option Elab.async false
set_option linter.all false
set_option maxRecDepth 100000
set_option autoImplicit false
namespace L2
open PySem PySem.Spec
/-- a caught exception of the class C that is kept -/
def EXo (C a : Addr) : HO := .ext fun h => ∃ oe : Obj, h.get? a = some oe ∧ Zc (.ref C) none oe ∧ ∃ vs, oe.data = .fields vs
theorem exo_is {P : Program} {w : World} {H : Hp} {h : Heap} {C a : Addr} {oe : Obj} (e : h.get? a = some oe) (z : Zc (.ref C) none oe) (d : ∃ vs, oe.data = .fields vs) : ObjOk P w H h a (EXo C a) :=
  ⟨⟨oe, e, z, d⟩, ⟨oe, e⟩, fun _ _ ⟨o, q, r⟩ k => ⟨o, k o q, r⟩⟩
end L2
namespace DL
open PySem PySem.Spec PyProof.Rows L2

/-! ## data -/
inductive D where
  | non | bl (b : Bool) | int (i : Int) | str (x : Str)
  | lst (xs : List D) | tup (xs : List D) | scr (xs : List D)
  | hdl (k : Nat) | raw (v : V) | exc (C : Addr)
inductive Cell where
  | lst (xs : List D)
  | dK (kvs : List (Key × D))
  | dN (kvs : List (NK × D))
  | fK (o : Obj) (us : List (Key × V)) (kvs : List (Key × D))
  | ins (C : Addr) (fs : List (Nat × D))
mutual
def NK.d : NK → D
  | .int i => .int i
  | .str x => .str x
  | .tup ks => .tup (NK.ds ks)
def NK.ds : List NK → List D
  | [] => []
  | k :: ks => NK.d k :: NK.ds ks
end
/-- a dict whose keys are tuples of keys: each with the tuple that stands there -/
def ndO (w : World) (a : Addr) (kvs : List (NK × Addr × V)) : HO := .ext fun h => kvs.length ≤ sizeLine ∧ (a == sysModules) = false ∧ ∃ xs : List (NK × Addr × Value), Paired (fun (p : NK × Addr × V) (q : NK × Addr × Value) => p.1 = q.1 ∧ p.2.1 = q.2.1 ∧ RelV p.2.2 q.2.2) kvs xs ∧
  ∃ o es ep, h.get? a = some o ∧ o.ExactDict ∧ o.data = .dict es ep ∧ es.toList = xs.map (fun x => (⟨nkHash w x.1, .ref x.2.1, x.2.2⟩ : DictEntry)) ∧ (xs.map (·.1)).Nodup
abbrev Sto := List Cell
abbrev DEnv := List (Option D)
abbrev DQ := D → Sto → Prop
abbrev XQ := Addr → Sto → Prop
/-- what is fixed: the written part, each class's attributes -/
structure Gm where
  K : PySem.W.Frag
  Γ : Addr → List Str
  w : World
structure Wd where
  m : List Addr
  ex : List Addr

/-! ## how data stand in the heap -/
def TupAt (K : PySem.W.Frag) (W : Wd) (H : Hp) (a : Addr) (vs : List V) : Prop :=
  (a ∉ W.m ∧ a ∉ W.ex ∧ Rd H a (.tup vs)) ∨ SqT K (fun _ => none) a vs
def ScrAt (K : PySem.W.Frag) (W : Wd) (H : Hp) (a : Addr) (vs : List V) : Prop :=
  (a ∉ W.m ∧ a ∉ W.ex ∧ Rd H a (.lst vs)) ∨ SqL K (fun _ => none) a vs
mutual
def Rp (K : PySem.W.Frag) (W : Wd) (H : Hp) : D → V → Prop
  | .non, v => v = .non
  | .bl b, v => v = .bl b
  | .int i, v => v = .int i
  | .str x, v => v = .str x
  | .lst ds, v => ∃ a vs, v = .ref a ∧ a ∉ W.m ∧ a ∉ W.ex ∧ H a = some (.lst vs) ∧ RpL K W H ds vs
  | .tup ds, v => ∃ a vs, v = .ref a ∧ TupAt K W H a vs ∧ RpL K W H ds vs
  | .scr ds, v => ∃ a vs, v = .ref a ∧ ScrAt K W H a vs ∧ RpL K W H ds vs
  | .hdl k, v => ∃ a, W.m[k]? = some a ∧ v = .ref a
  | .raw u, v => v = u
  | .exc C, v => ∃ a, v = .ref a ∧ a ∉ W.m ∧ a ∉ W.ex ∧ H a = some (L2.EXo C a)
def RpL (K : PySem.W.Frag) (W : Wd) (H : Hp) : List D → List V → Prop
  | [], vs => vs = []
  | d :: ds, vs => ∃ v r, vs = v :: r ∧ Rp K W H d v ∧ RpL K W H ds r
end
/-- later: the world has grown, what was no handle's is as it was -/
structure Le (W : Wd) (H : Hp) (W' : Wd) (H' : Hp) : Prop where
  ex : W'.ex = W.ex
  m : ∃ t, W'.m = W.m ++ t
  keep : ∀ a o, a ∉ W.m → H a = some o → a ∉ W'.m ∧ H' a = some o
theorem Le.refl {W : Wd} {H : Hp} : Le W H W H := ⟨rfl, ⟨[], by simp⟩, fun _ _ h e => ⟨h, e⟩⟩
theorem Le.trans {W W1 W2 : Wd} {H H1 H2 : Hp} (a : Le W H W1 H1) (b : Le W1 H1 W2 H2) : Le W H W2 H2 := by
  obtain ⟨t, e⟩ := a.m
  obtain ⟨u, e'⟩ := b.m
  refine ⟨b.ex.trans a.ex, ⟨t ++ u, by rw [e', e, List.append_assoc]⟩, fun x o h q => ?_⟩
  obtain ⟨h1, q1⟩ := a.keep x o h q
  exact b.keep x o h1 q1
/-- what data ask: the handles' places stay, what is neither a handle's nor hidden is as it was -/
structure LeR (W : Wd) (H : Hp) (W' : Wd) (H' : Hp) : Prop where
  m : ∃ t, W'.m = W.m ++ t
  keep : ∀ a o, a ∉ W.m → a ∉ W.ex → H a = some o → a ∉ W'.m ∧ a ∉ W'.ex ∧ H' a = some o
theorem Le.r {W W' : Wd} {H H' : Hp} (l : Le W H W' H') : LeR W H W' H' :=
  ⟨l.m, fun a o h1 h2 e => let q := l.keep a o h1 e; ⟨q.1, by rw [l.ex]; exact h2, q.2⟩⟩
theorem LeR.trans {W W1 W2 : Wd} {H H1 H2 : Hp} (a : LeR W H W1 H1) (b : LeR W1 H1 W2 H2) : LeR W H W2 H2 := by
  obtain ⟨t, e⟩ := a.m
  obtain ⟨u, e'⟩ := b.m
  refine ⟨⟨t ++ u, by rw [e', e, List.append_assoc]⟩, fun x o h1 h2 q => ?_⟩
  obtain ⟨h3, h4, q1⟩ := a.keep x o h1 h2 q
  exact b.keep x o h3 h4 q1
theorem Rd.leR {W W' : Wd} {H H' : Hp} {a : Addr} {u : HO} (l : LeR W H W' H') (h : a ∉ W.m) (h' : a ∉ W.ex) (r : Rd H a u) : a ∉ W'.m ∧ a ∉ W'.ex ∧ Rd H' a u := by
  rcases r with r | ⟨o, r⟩
  · obtain ⟨h1, h2, q⟩ := l.keep a _ h h' r
    exact ⟨h1, h2, .inl q⟩
  · obtain ⟨h1, h2, q⟩ := l.keep a _ h h' r
    exact ⟨h1, h2, .inr ⟨o, q⟩⟩
theorem TupAt.leR {K : PySem.W.Frag} {W W' : Wd} {H H' : Hp} {a : Addr} {vs : List V} (l : LeR W H W' H') (h : TupAt K W H a vs) : TupAt K W' H' a vs := by
  rcases h with ⟨h1, h2, h3⟩ | h
  · exact .inl (Rd.leR l h1 h2 h3)
  · exact .inr h
theorem ScrAt.leR {K : PySem.W.Frag} {W W' : Wd} {H H' : Hp} {a : Addr} {vs : List V} (l : LeR W H W' H') (h : ScrAt K W H a vs) : ScrAt K W' H' a vs := by
  rcases h with ⟨h1, h2, h3⟩ | h
  · exact .inl (Rd.leR l h1 h2 h3)
  · exact .inr h
theorem TupAt.le {K : PySem.W.Frag} {W W' : Wd} {H H' : Hp} {a : Addr} {vs : List V} (l : Le W H W' H') (h : TupAt K W H a vs) : TupAt K W' H' a vs := h.leR l.r
theorem ScrAt.le {K : PySem.W.Frag} {W W' : Wd} {H H' : Hp} {a : Addr} {vs : List V} (l : Le W H W' H') (h : ScrAt K W H a vs) : ScrAt K W' H' a vs := h.leR l.r
theorem TupAt.sq {K : PySem.W.Frag} {W : Wd} {H : Hp} {a : Addr} {vs : List V} (h : TupAt K W H a vs) : SqT K H a vs := by
  rcases h with ⟨_, _, h⟩ | h
  · exact .inl h
  · rcases h with (h | ⟨_, h⟩) | h
    · cases h
    · cases h
    · exact .inr h
theorem ScrAt.sq {K : PySem.W.Frag} {W : Wd} {H : Hp} {a : Addr} {vs : List V} (h : ScrAt K W H a vs) : SqL K H a vs := by
  rcases h with ⟨_, _, h⟩ | h
  · exact .inl h
  · rcases h with (h | ⟨_, h⟩) | h
    · cases h
    · cases h
    · exact .inr h
section
variable {K : PySem.W.Frag} {W W' : Wd} {H H' : Hp}
mutual
theorem Rp.leR (l : LeR W H W' H') : ∀ {d : D} {v : V}, Rp K W H d v → Rp K W' H' d v
  | .non, _, h => h
  | .bl _, _, h => h
  | .int _, _, h => h
  | .str _, _, h => h
  | .lst ds, v, h => by
    simp only [Rp] at h ⊢
    obtain ⟨a, vs, e, h1, h2, h3, h4⟩ := h
    obtain ⟨q1, q2, q3⟩ := l.keep a _ h1 h2 h3
    exact ⟨a, vs, e, q1, q2, q3, RpL.leR l h4⟩
  | .tup ds, v, h => by
    simp only [Rp] at h ⊢
    obtain ⟨a, vs, e, h1, h4⟩ := h
    exact ⟨a, vs, e, h1.leR l, RpL.leR l h4⟩
  | .scr ds, v, h => by
    simp only [Rp] at h ⊢
    obtain ⟨a, vs, e, h1, h4⟩ := h
    exact ⟨a, vs, e, h1.leR l, RpL.leR l h4⟩
  | .hdl k, v, h => by
    simp only [Rp] at h ⊢
    obtain ⟨a, h1, e⟩ := h
    obtain ⟨t, q⟩ := l.m
    refine ⟨a, ?_, e⟩
    rw [q, List.getElem?_append_left]
    · exact h1
    · exact (List.getElem?_eq_some_iff.mp h1).1
  | .raw _, _, h => h
  | .exc _, v, h => by
    simp only [Rp] at h ⊢
    obtain ⟨a, e, h1, h2, h3⟩ := h
    obtain ⟨q1, q2, q3⟩ := l.keep a _ h1 h2 h3
    exact ⟨a, e, q1, q2, q3⟩
theorem RpL.leR (l : LeR W H W' H') : ∀ {ds : List D} {vs : List V}, RpL K W H ds vs → RpL K W' H' ds vs
  | [], _, h => h
  | d :: ds, vs, h => by
    simp only [RpL] at h ⊢
    obtain ⟨v, r, e, h1, h2⟩ := h
    exact ⟨v, r, e, Rp.leR l h1, RpL.leR l h2⟩
end
theorem Rp.le (l : Le W H W' H') {d : D} {v : V} (h : Rp K W H d v) : Rp K W' H' d v := h.leR l.r
theorem RpL.le (l : Le W H W' H') {ds : List D} {vs : List V} (h : RpL K W H ds vs) : RpL K W' H' ds vs := h.leR l.r
end
section
variable {K : PySem.W.Frag} {W : Wd} {H : Hp}
theorem RpL.length : ∀ {ds : List D} {vs : List V}, RpL K W H ds vs → vs.length = ds.length
  | [], _, h => by simp only [RpL] at h; subst h; rfl
  | d :: ds, vs, h => by
    simp only [RpL] at h
    obtain ⟨v, r, e, h1, h2⟩ := h
    subst e
    simp [RpL.length h2]
theorem RpL.get : ∀ {ds : List D} {vs : List V} {i : Nat} {d : D}, RpL K W H ds vs → ds[i]? = some d → ∃ v, vs[i]? = some v ∧ Rp K W H d v
  | [], _, _, _, _, e => by simp at e
  | d :: ds, vs, 0, _, h, e => by
    simp only [RpL] at h
    obtain ⟨v, r, rfl, h1, h2⟩ := h
    simp at e; subst e
    exact ⟨v, by simp, h1⟩
  | d :: ds, vs, i + 1, _, h, e => by
    simp only [RpL] at h
    obtain ⟨v, r, rfl, h1, h2⟩ := h
    obtain ⟨w, q1, q2⟩ := RpL.get (i := i) h2 (by simpa using e)
    exact ⟨w, by simpa using q1, q2⟩
theorem RpL.append : ∀ {ds es : List D} {vs us : List V}, RpL K W H ds vs → RpL K W H es us → RpL K W H (ds ++ es) (vs ++ us)
  | [], _, _, _, h, h' => by simp only [RpL] at h; subst h; exact h'
  | d :: ds, es, vs, us, h, h' => by
    simp only [RpL] at h
    obtain ⟨v, r, rfl, h1, h2⟩ := h
    show RpL K W H (d :: (ds ++ es)) (v :: (r ++ us))
    simp only [RpL]
    exact ⟨v, _, rfl, h1, RpL.append h2 h'⟩
theorem RpL.one {d : D} {v : V} (h : Rp K W H d v) : RpL K W H [d] [v] := by
  simp only [RpL]; exact ⟨v, [], rfl, h, rfl⟩
theorem RpL.nil : RpL K W H [] [] := by simp only [RpL]
theorem RpL.cons {d : D} {v : V} {ds : List D} {vs : List V} (h : Rp K W H d v) (h' : RpL K W H ds vs) : RpL K W H (d :: ds) (v :: vs) := by
  simp only [RpL]; exact ⟨v, vs, rfl, h, h'⟩
theorem RpL.take : ∀ {ds : List D} {vs : List V} (n : Nat), RpL K W H ds vs → RpL K W H (ds.take n) (vs.take n)
  | _, _, 0, _ => by simp [RpL]
  | [], vs, n + 1, h => by simp only [RpL] at h; subst h; simp [RpL]
  | d :: ds, vs, n + 1, h => by
    simp only [RpL] at h
    obtain ⟨v, r, rfl, h1, h2⟩ := h
    exact RpL.cons h1 (RpL.take n h2)
theorem RpL.drop : ∀ {ds : List D} {vs : List V} (n : Nat), RpL K W H ds vs → RpL K W H (ds.drop n) (vs.drop n)
  | _, _, 0, h => h
  | [], vs, n + 1, h => by simp only [RpL] at h; subst h; simp [RpL]
  | d :: ds, vs, n + 1, h => by
    simp only [RpL] at h
    obtain ⟨v, r, rfl, h1, h2⟩ := h
    exact RpL.drop n h2
theorem RpL.set {d : D} {v : V} (hd : Rp K W H d v) : ∀ {ds : List D} {vs : List V} (n : Nat), RpL K W H ds vs → RpL K W H (ds.set n d) (vs.set n v)
  | [], vs, n, h => by simp only [RpL] at h; subst h; simp [RpL]
  | e :: ds, vs, 0, h => by
    simp only [RpL] at h
    obtain ⟨v', r, rfl, h1, h2⟩ := h
    exact RpL.cons hd h2
  | e :: ds, vs, n + 1, h => by
    simp only [RpL] at h
    obtain ⟨v', r, rfl, h1, h2⟩ := h
    exact RpL.cons h1 (RpL.set hd n h2)
theorem RpL.eraseIdx : ∀ {ds : List D} {vs : List V} (n : Nat), RpL K W H ds vs → RpL K W H (ds.eraseIdx n) (vs.eraseIdx n)
  | [], vs, n, h => by simp only [RpL] at h; subst h; simp [RpL]
  | e :: ds, vs, 0, h => by
    simp only [RpL] at h
    obtain ⟨v', r, rfl, h1, h2⟩ := h
    exact h2
  | e :: ds, vs, n + 1, h => by
    simp only [RpL] at h
    obtain ⟨v', r, rfl, h1, h2⟩ := h
    exact RpL.cons h1 (RpL.eraseIdx n h2)
theorem RpL.reverse {ds : List D} {vs : List V} (h : RpL K W H ds vs) : RpL K W H ds.reverse vs.reverse := by
  induction ds generalizing vs with
  | nil => simp only [RpL] at h; subst h; simp [RpL]
  | cons d ds ih =>
    simp only [RpL] at h
    obtain ⟨v, r, rfl, h1, h2⟩ := h
    rw [List.reverse_cons, List.reverse_cons]
    exact (ih h2).append (.one h1)
theorem RpL.ints : ∀ {ns : List Int} {vs : List V}, RpL K W H (ns.map D.int) vs → vs = ns.map V.int
  | [], _, h => by simpa only [List.map, RpL] using h
  | n :: ns, vs, h => by
    simp only [List.map, RpL, Rp] at h
    obtain ⟨v, r, rfl, rfl, h2⟩ := h
    rw [RpL.ints h2]; rfl
theorem RpL.of_ints : ∀ (ns : List Int), RpL K W H (ns.map D.int) (ns.map V.int)
  | [] => by simp [RpL]
  | n :: ns => RpL.cons rfl (RpL.of_ints ns)
end

/-! ## the store -/
def RpF (K : PySem.W.Frag) (W : Wd) (H : Hp) (N : List Str) : List (Nat × D) → List (Str × V) → Prop
  | [], vs => vs = []
  | (n, d) :: fs, vs => ∃ x v r, vs = (x, v) :: r ∧ N[n]? = some x ∧ Rp K W H d v ∧ RpF K W H N fs r
def RpK (K : PySem.W.Frag) (W : Wd) (H : Hp) : List (Key × D) → List (Key × V) → Prop
  | [], vs => vs = []
  | (k, d) :: fs, vs => ∃ v r, vs = (k, v) :: r ∧ Rp K W H d v ∧ RpK K W H fs r
/-- the pairs of a dict with tuple keys -/
def RpN (K : PySem.W.Frag) (W : Wd) (H : Hp) : List (NK × D) → List (NK × Addr × V) → Prop
  | [], vs => vs = []
  | (k, d) :: fs, vs => ∃ b v r, vs = (k, b, v) :: r ∧ Rp K W H k.d (.ref b) ∧ k.dep ≤ 8 ∧ Rp K W H d v ∧ RpN K W H fs r
def CellRp (G : Gm) (W : Wd) (H : Hp) (a : Addr) : Cell → Prop
  | .lst ds => ∃ vs, H a = some (.lst vs) ∧ RpL G.K W H ds vs
  | .dK kvs => ∃ vs, H a = some (.dK vs) ∧ RpK G.K W H kvs vs
  | .dN kvs => ∃ vs, H a = some (ndO G.w a vs) ∧ RpN G.K W H kvs vs
  | .fK o us kvs => H a = some (.frz o (.dK us)) ∧ RpK G.K W H kvs us
  | .ins C fs => ∃ dx vs, H a = some (.ins C dx vs) ∧ RpF G.K W H (G.Γ C) fs vs
structure Rel (G : Gm) (W : Wd) (H : Hp) (st : Sto) : Prop where
  nd : W.m.Nodup
  len : W.m.length = st.length
  out : ∀ a ∈ W.m, a ∉ W.ex
  exs : ∀ a ∈ W.ex, ∃ o, H a = some o
  cell : ∀ (k : Nat) (c : Cell), st[k]? = some c → ∃ a, W.m[k]? = some a ∧ CellRp G W H a c
theorem RpF.leR {K : PySem.W.Frag} {W W' : Wd} {H H' : Hp} {N : List Str} (l : LeR W H W' H') : ∀ {fs : List (Nat × D)} {vs : List (Str × V)}, RpF K W H N fs vs → RpF K W' H' N fs vs
  | [], _, h => h
  | (n, d) :: fs, vs, h => by
    obtain ⟨x, v, r, e, h1, h2, h3⟩ := h
    exact ⟨x, v, r, e, h1, h2.leR l, h3.leR l⟩
theorem RpK.leR {K : PySem.W.Frag} {W W' : Wd} {H H' : Hp} (l : LeR W H W' H') : ∀ {fs : List (Key × D)} {vs : List (Key × V)}, RpK K W H fs vs → RpK K W' H' fs vs
  | [], _, h => h
  | (n, d) :: fs, vs, h => by
    obtain ⟨v, r, e, h2, h3⟩ := h
    exact ⟨v, r, e, h2.leR l, h3.leR l⟩
theorem RpN.leR {K : PySem.W.Frag} {W W' : Wd} {H H' : Hp} (l : LeR W H W' H') : ∀ {fs : List (NK × D)} {vs : List (NK × Addr × V)}, RpN K W H fs vs → RpN K W' H' fs vs
  | [], _, h => h
  | (n, d) :: fs, vs, h => by
    obtain ⟨b, v, r, e, h1, h0, h2, h3⟩ := h
    exact ⟨b, v, r, e, h1.leR l, h0, h2.leR l, h3.leR l⟩
/-- a cell's rest: its own object kept, later -/
theorem CellRp.leR {G : Gm} {W W' : Wd} {H H' : Hp} {a : Addr} {c : Cell} (l : LeR W H W' H') (e : H' a = H a) (h : CellRp G W H a c) : CellRp G W' H' a c := by
  cases c with
  | lst ds => obtain ⟨vs, h1, h2⟩ := h; exact ⟨vs, e.trans h1, h2.leR l⟩
  | dK ds => obtain ⟨vs, h1, h2⟩ := h; exact ⟨vs, e.trans h1, h2.leR l⟩
  | dN ds => obtain ⟨vs, h1, h2⟩ := h; exact ⟨vs, e.trans h1, h2.leR l⟩
  | fK _ _ _ => obtain ⟨h1, h2⟩ := h; exact ⟨e.trans h1, h2.leR l⟩
  | ins C fs => obtain ⟨dx, vs, h1, h2⟩ := h; exact ⟨dx, vs, e.trans h1, h2.leR l⟩
theorem RpF.le {K : PySem.W.Frag} {W W' : Wd} {H H' : Hp} {N : List Str} (l : Le W H W' H') {fs : List (Nat × D)} {vs : List (Str × V)} (h : RpF K W H N fs vs) : RpF K W' H' N fs vs := h.leR l.r
theorem RpK.le {K : PySem.W.Frag} {W W' : Wd} {H H' : Hp} (l : Le W H W' H') {fs : List (Key × D)} {vs : List (Key × V)} (h : RpK K W H fs vs) : RpK K W' H' fs vs := h.leR l.r
theorem RpN.le {K : PySem.W.Frag} {W W' : Wd} {H H' : Hp} (l : Le W H W' H') {fs : List (NK × D)} {vs : List (NK × Addr × V)} (h : RpN K W H fs vs) : RpN K W' H' fs vs := h.leR l.r
theorem CellRp.le {G : Gm} {W W' : Wd} {H H' : Hp} {a : Addr} {c : Cell} (l : Le W H W' H') (e : H' a = H a) (h : CellRp G W H a c) : CellRp G W' H' a c := h.leR l.r e
theorem CellRp.some {G : Gm} {W : Wd} {H : Hp} {a : Addr} {c : Cell} (h : CellRp G W H a c) : ∃ o, H a = some o ∧ True := by
  cases c with
  | lst ds => obtain ⟨vs, h1, h2⟩ := h; exact ⟨_, h1, trivial⟩
  | dK ds => obtain ⟨vs, h1, h2⟩ := h; exact ⟨_, h1, trivial⟩
  | dN ds => obtain ⟨vs, h1, h2⟩ := h; exact ⟨_, h1, trivial⟩
  | fK _ _ _ => obtain ⟨h1, h2⟩ := h; exact ⟨_, h1, trivial⟩
  | ins C fs => obtain ⟨dx, vs, h1, h2⟩ := h; exact ⟨_, h1, trivial⟩
section
variable {G : Gm} {W : Wd} {H : Hp} {st : Sto}
theorem get_inj {l : List Addr} (h : l.Nodup) {i j : Nat} {a : Addr} (e : l[i]? = some a) (e' : l[j]? = some a) : i = j := by
  obtain ⟨h1, e1⟩ := List.getElem?_eq_some_iff.mp e
  obtain ⟨h2, e2⟩ := List.getElem?_eq_some_iff.mp e'
  exact (List.getElem_inj h).mp (e1.trans e2.symm)
theorem Le.write {a : Addr} {o : HO} (h : a ∈ W.m) : Le W H W (upd H a o) :=
  ⟨rfl, ⟨[], by simp⟩, fun b u hb e => ⟨hb, by rw [upd_ne (fun z => hb (by rw [z]; exact h))]; exact e⟩⟩
theorem Le.fresh {a : Addr} {o : HO} (h : H a = none) : Le W H W (upd H a o) :=
  ⟨rfl, ⟨[], by simp⟩, fun b u hb e => ⟨hb, by rw [upd_ne (ne_of_none e h)]; exact e⟩⟩
theorem Le.new {a : Addr} {o : HO} (h : H a = none) : Le W H ⟨W.m ++ [a], W.ex⟩ (upd H a o) :=
  ⟨rfl, ⟨[a], rfl⟩, fun b u hb e => ⟨by simp [hb, ne_of_none e h], by rw [upd_ne (ne_of_none e h)]; exact e⟩⟩
theorem Rel.mem (r : Rel G W H st) {k : Nat} {a : Addr} (e : W.m[k]? = some a) : a ∈ W.m := List.mem_of_getElem? e
theorem Rel.there (r : Rel G W H st) {a : Addr} (h : a ∈ W.m) : ∃ o, H a = some o ∧ True := by
  obtain ⟨k, hk, e⟩ := List.getElem_of_mem h
  have hk' : k < st.length := by rw [← r.len]; exact hk
  obtain ⟨b, e1, c⟩ := r.cell k st[k] (by simp [hk'])
  rw [List.getElem?_eq_getElem hk] at e1
  cases e1
  rw [e] at c
  exact c.some
/-- a cell written -/
theorem Rel.write {k : Nat} {a : Addr} {o : HO} {c : Cell} (r : Rel G W H st) (e : W.m[k]? = some a) (h : CellRp G W (upd H a o) a c) : Rel G W (upd H a o) (st.set k c) := by
  refine ⟨r.nd, by simpa using r.len, r.out, fun b hb => ?_, fun j c' q => ?_⟩
  · obtain ⟨u, e2⟩ := r.exs b hb
    refine ⟨u, ?_⟩
    rw [upd_ne]
    · exact e2
    · intro z; exact r.out a (r.mem e) (z ▸ hb)
  have l : Le W H W (upd H a o) := Le.write (r.mem e)
  by_cases hj : j = k
  · subst hj
    have : j < st.length := by rw [← r.len]; exact (List.getElem?_eq_some_iff.mp e).1
    rw [List.getElem?_set_self this] at q
    cases q
    exact ⟨a, e, h⟩
  · rw [List.getElem?_set_ne (Ne.symm hj)] at q
    obtain ⟨b, q1, q2⟩ := r.cell j c' q
    refine ⟨b, q1, q2.le l ?_⟩
    rw [upd_ne]
    intro z
    exact hj (get_inj r.nd (z ▸ q1) e)
/-- a new object that is no handle's -/
theorem Rel.fresh {a : Addr} {o : HO} (r : Rel G W H st) (h : H a = none) : Rel G W (upd H a o) st := by
  refine ⟨r.nd, r.len, r.out, fun b hb => ?_, fun j c q => ?_⟩
  · obtain ⟨u, e2⟩ := r.exs b hb
    exact ⟨u, by rw [upd_ne (ne_of_none e2 h)]; exact e2⟩
  obtain ⟨b, q1, q2⟩ := r.cell j c q
  refine ⟨b, q1, q2.le (Le.fresh h) ?_⟩
  obtain ⟨u, q3, _⟩ := q2.some
  rw [upd_ne (ne_of_none q3 h)]
theorem Rel.nex (r : Rel G W H st) {a : Addr} (h : H a = none) : a ∉ W.ex := fun z => by
  obtain ⟨o, e⟩ := r.exs a z
  rw [h] at e; cases e
theorem Rel.nin (r : Rel G W H st) {a : Addr} (h : H a = none) : a ∉ W.m := fun z => by
  obtain ⟨o, e, _⟩ := r.there z
  rw [h] at e; cases e
/-- a new handle -/
theorem Rel.new {a : Addr} {o : HO} {c : Cell} (r : Rel G W H st) (h : H a = none) (hc : CellRp G ⟨W.m ++ [a], W.ex⟩ (upd H a o) a c) : Rel G ⟨W.m ++ [a], W.ex⟩ (upd H a o) (st ++ [c]) := by
  have ha := r.nin h
  have hx := r.nex h
  refine ⟨?_, by simp [r.len], ?_, fun b hb => ?_, fun j c' q => ?_⟩
  · show (W.m ++ [a]).Nodup
    rw [List.nodup_append]
    refine ⟨r.nd, by simp, ?_⟩
    intro x h1 y h2 z
    have e2 : y = a := by simpa using h2
    exact ha (by rw [← e2, ← z]; exact h1)
  · intro x hx'
    rcases List.mem_append.mp hx' with z | z
    · exact r.out x z
    · have : x = a := by simpa using z
      subst this; exact hx
  · obtain ⟨u, e2⟩ := r.exs b hb
    exact ⟨u, by rw [upd_ne (ne_of_none e2 h)]; exact e2⟩
  · by_cases hj : j < st.length
    · rw [List.getElem?_append_left hj] at q
      obtain ⟨b, q1, q2⟩ := r.cell j c' q
      refine ⟨b, ?_, q2.le (Le.new h) ?_⟩
      · show (W.m ++ [a])[j]? = _
        rw [List.getElem?_append_left (by rw [r.len]; exact hj)]; exact q1
      · obtain ⟨u, q3, _⟩ := q2.some
        rw [upd_ne (ne_of_none q3 h)]
    · have hj' : st.length ≤ j := Nat.le_of_not_lt hj
      rw [List.getElem?_append_right hj'] at q
      have e0 : j - st.length = 0 := by
        by_cases z : j - st.length = 0
        · exact z
        · obtain ⟨n, hn⟩ := Nat.exists_eq_succ_of_ne_zero z
          rw [hn] at q; simp at q
      rw [e0] at q
      simp at q
      subst q
      refine ⟨a, ?_, hc⟩
      show (W.m ++ [a])[j]? = _
      rw [List.getElem?_append_right (by rw [r.len]; exact hj'), r.len, e0]
      rfl
end

/-- an object is hidden, is written while hidden, is shown again -/
theorem Rel.hide {G : Gm} {W : Wd} {H : Hp} {st : Sto} {a : Addr} {o : HO} (r : Rel G W H st) (h : H a = none) : Rel G ⟨W.m, a :: W.ex⟩ (upd H a o) st := by
  have l : LeR W H ⟨W.m, a :: W.ex⟩ (upd H a o) := ⟨⟨[], by simp⟩, fun b u h1 h2 e => ⟨h1, by simp [h2, ne_of_none e h], by rw [upd_ne (ne_of_none e h)]; exact e⟩⟩
  refine ⟨r.nd, r.len, fun b hb => ?_, fun b hb => ?_, fun j c q => ?_⟩
  · have h1 := r.nin h
    have h2 := r.out b hb
    simp only [List.mem_cons, not_or]
    exact ⟨fun z => h1 (z ▸ hb), h2⟩
  · rcases List.mem_cons.mp hb with rfl | hb
    · exact ⟨o, upd_same⟩
    · obtain ⟨u, e⟩ := r.exs b hb
      exact ⟨u, by rw [upd_ne (ne_of_none e h)]; exact e⟩
  · obtain ⟨b, q1, q2⟩ := r.cell j c q
    refine ⟨b, q1, q2.leR l ?_⟩
    obtain ⟨u, q3, _⟩ := q2.some
    rw [upd_ne (ne_of_none q3 h)]
theorem Rel.hidden {G : Gm} {W : Wd} {H : Hp} {st : Sto} {a : Addr} {o : HO} (r : Rel G W H st) (h : a ∈ W.ex) : Rel G W (upd H a o) st ∧ LeR W H W (upd H a o) := by
  have l : LeR W H W (upd H a o) := ⟨⟨[], by simp⟩, fun b u h1 h2 e => ⟨h1, h2, by rw [upd_ne (fun z => h2 (by rw [z]; exact h))]; exact e⟩⟩
  refine ⟨⟨r.nd, r.len, r.out, fun b hb => ?_, fun j c q => ?_⟩, l⟩
  · by_cases e : b = a
    · exact ⟨o, by rw [e, upd_same]⟩
    · obtain ⟨u, e2⟩ := r.exs b hb
      exact ⟨u, by rw [upd_ne e]; exact e2⟩
  · obtain ⟨b, q1, q2⟩ := r.cell j c q
    refine ⟨b, q1, q2.leR l ?_⟩
    rw [upd_ne]
    intro z
    exact r.out b (r.mem q1) (z ▸ h)
theorem LeR.show {a : Addr} {m ex : List Addr} {H : Hp} : LeR ⟨m, a :: ex⟩ H ⟨m, ex⟩ H := ⟨⟨[], by simp⟩, fun b u h1 h2 e => ⟨h1, fun z => h2 (List.mem_cons_of_mem _ z), e⟩⟩
theorem Rel.show {G : Gm} {a : Addr} {m ex : List Addr} {H : Hp} {st : Sto} (r : Rel G ⟨m, a :: ex⟩ H st) : Rel G ⟨m, ex⟩ H st :=
  ⟨r.nd, r.len, fun b hb z => r.out b hb (List.mem_cons_of_mem _ z), fun b hb => r.exs b (List.mem_cons_of_mem _ hb), fun j c q => by
    obtain ⟨b, q1, q2⟩ := r.cell j c q
    exact ⟨b, q1, q2.leR LeR.show rfl⟩⟩
/-- a hidden list is a handle from now on -/
theorem Rel.toH {G : Gm} {a : Addr} {m ex : List Addr} {H : Hp} {st : Sto} {ds : List D} {vs : List V} (r : Rel G ⟨m, a :: ex⟩ H st) (ha : a ∉ ex) (e : H a = some (.lst vs)) (h : RpL G.K ⟨m, a :: ex⟩ H ds vs) : Rel G ⟨m ++ [a], ex⟩ H (st ++ [.lst ds]) ∧ Rp G.K ⟨m ++ [a], ex⟩ H (.hdl st.length) (.ref a) := by
  have nm : a ∉ m := fun z => r.out a z (List.mem_cons_self)
  have l : LeR ⟨m, a :: ex⟩ H ⟨m ++ [a], ex⟩ H := ⟨⟨[a], rfl⟩, fun b u h1 h2 e => by
    simp only [List.mem_cons, not_or] at h2
    exact ⟨by simp only [List.mem_append, List.mem_singleton, not_or]; exact ⟨h1, h2.1⟩, h2.2, e⟩⟩
  have hlen : m.length = st.length := r.len
  refine ⟨⟨?_, by simp [hlen], fun b hb => ?_, fun b hb => r.exs b (List.mem_cons_of_mem _ hb), fun j c q => ?_⟩, ?_⟩
  · show (m ++ [a]).Nodup
    rw [List.nodup_append]
    refine ⟨r.nd, by simp, ?_⟩
    intro x h1 y h2 z
    have e2 : y = a := by simpa using h2
    exact nm (by rw [← e2, ← z]; exact h1)
  · rcases List.mem_append.mp hb with z | z
    · exact fun q => r.out b z (List.mem_cons_of_mem _ q)
    · have : b = a := by simpa using z
      subst this; exact ha
  · by_cases hj : j < st.length
    · rw [List.getElem?_append_left hj] at q
      obtain ⟨b, q1, q2⟩ := r.cell j c q
      refine ⟨b, ?_, q2.leR l rfl⟩
      show (m ++ [a])[j]? = _
      rw [List.getElem?_append_left (by rw [hlen]; exact hj)]; exact q1
    · have hj' : st.length ≤ j := Nat.le_of_not_lt hj
      rw [List.getElem?_append_right hj'] at q
      have e0 : j - st.length = 0 := by
        by_cases z : j - st.length = 0
        · exact z
        · obtain ⟨n, hn⟩ := Nat.exists_eq_succ_of_ne_zero z
          rw [hn] at q; simp at q
      rw [e0] at q
      simp at q
      subst q
      refine ⟨a, ?_, vs, e, h.leR l⟩
      show (m ++ [a])[j]? = _
      rw [List.getElem?_append_right (by rw [hlen]; exact hj'), hlen, e0]
      rfl
  · simp only [Rp]
    refine ⟨a, ?_, rfl⟩
    show (m ++ [a])[st.length]? = _
    rw [← hlen]; simp
/-- new data: a list, a tuple -/
theorem newL {G : Gm} {W : Wd} {H : Hp} {st : Sto} {a : Addr} {ds : List D} {vs : List V} (r : Rel G W H st) (h : H a = none) (q : RpL G.K W H ds vs) : Rp G.K W (upd H a (.lst vs)) (.lst ds) (.ref a) := by
  simp only [Rp]
  exact ⟨a, vs, rfl, r.nin h, r.nex h, upd_same, q.le (Le.fresh h)⟩
theorem newT {G : Gm} {W : Wd} {H : Hp} {st : Sto} {a : Addr} {ds : List D} {vs : List V} (r : Rel G W H st) (h : H a = none) (q : RpL G.K W H ds vs) : Rp G.K W (upd H a (.tup vs)) (.tup ds) (.ref a) := by
  simp only [Rp]
  exact ⟨a, vs, rfl, .inl ⟨r.nin h, r.nex h, .inl upd_same⟩, q.le (Le.fresh h)⟩
/-- a new handle, of a list, of a dict -/
theorem newHL {G : Gm} {W : Wd} {H : Hp} {st : Sto} {a : Addr} {ds : List D} {vs : List V} (r : Rel G W H st) (h : H a = none) (q : RpL G.K W H ds vs) :
    Rel G ⟨W.m ++ [a], W.ex⟩ (upd H a (.lst vs)) (st ++ [.lst ds]) ∧ Rp G.K ⟨W.m ++ [a], W.ex⟩ (upd H a (.lst vs)) (.hdl st.length) (.ref a) := by
  refine ⟨r.new h ⟨vs, upd_same, q.le (Le.new h)⟩, ?_⟩
  simp only [Rp]
  refine ⟨a, ?_, rfl⟩
  rw [← r.len]; simp
theorem newHK {G : Gm} {W : Wd} {H : Hp} {st : Sto} {a : Addr} {ds : List (Key × D)} {vs : List (Key × V)} (r : Rel G W H st) (h : H a = none) (q : RpK G.K W H ds vs) :
    Rel G ⟨W.m ++ [a], W.ex⟩ (upd H a (.dK vs)) (st ++ [.dK ds]) ∧ Rp G.K ⟨W.m ++ [a], W.ex⟩ (upd H a (.dK vs)) (.hdl st.length) (.ref a) := by
  refine ⟨r.new h ⟨vs, upd_same, q.le (Le.new h)⟩, ?_⟩
  simp only [Rp]
  refine ⟨a, ?_, rfl⟩
  rw [← r.len]; simp

theorem newHN {G : Gm} {W : Wd} {H : Hp} {st : Sto} {a : Addr} {ds : List (NK × D)} {vs : List (NK × Addr × V)} (r : Rel G W H st) (h : H a = none) (q : RpN G.K W H ds vs) :
    Rel G ⟨W.m ++ [a], W.ex⟩ (upd H a (ndO G.w a vs)) (st ++ [.dN ds]) ∧ Rp G.K ⟨W.m ++ [a], W.ex⟩ (upd H a (ndO G.w a vs)) (.hdl st.length) (.ref a) := by
  refine ⟨r.new h ⟨vs, upd_same, q.le (Le.new h)⟩, ?_⟩
  simp only [Rp]
  refine ⟨a, ?_, rfl⟩
  rw [← r.len]; simp

/-! ## names -/
structure RpE (K : PySem.W.Frag) (W : Wd) (H : Hp) (ρ : DEnv) (σ : L2.St) : Prop where
  len : ρ.length = σ.length
  get : ∀ (i : Nat) (d : D), ρ[i]? = some (some d) → ∃ v, σ[i]? = some (some v) ∧ Rp K W H d v
theorem RpE.le {K : PySem.W.Frag} {W W' : Wd} {H H' : Hp} {ρ : DEnv} {σ : L2.St} (r : RpE K W H ρ σ) (l : Le W H W' H') : RpE K W' H' ρ σ :=
  ⟨r.len, fun i d e => let ⟨v, h1, h2⟩ := r.get i d e; ⟨v, h1, h2.le l⟩⟩
theorem RpE.set {K : PySem.W.Frag} {W : Wd} {H : Hp} {ρ : DEnv} {σ : L2.St} (r : RpE K W H ρ σ) {d : D} {v : V} (h : Rp K W H d v) (i : Nat) : RpE K W H (ρ.set i (some d)) (σ.set i (some v)) := by
  refine ⟨by simp [r.len], fun j e q => ?_⟩
  by_cases hj : i = j
  · subst hj
    by_cases hi : i < ρ.length
    · rw [List.getElem?_set_self hi] at q
      cases q
      exact ⟨v, by rw [List.getElem?_set_self (by rw [← r.len]; exact hi)], h⟩
    · rw [List.getElem?_eq_none (by simp; omega)] at q
      cases q
  · rw [List.getElem?_set_ne hj] at q
    obtain ⟨w, h1, h2⟩ := r.get j e q
    exact ⟨w, by rw [List.getElem?_set_ne hj]; exact h1, h2⟩

/-! ## readings -/
abbrev ME := DEnv → Sto → DQ → XQ → Prop
abbrev MT := DEnv → Sto → (Bool → Sto → Prop) → XQ → Prop
abbrev MA := DEnv → Sto → (List D → Sto → Prop) → XQ → Prop
structure DEnds where
  nx : DEnv → Sto → Prop
  rt : DQ
  bk : DEnv → Sto → Prop := fun _ _ => False
  ct : DEnv → Sto → Prop := fun _ _ => False
  xq : XQ
abbrev MS := DEnds → DEnv → Sto → Prop
section
variable (G : Gm) (E : XK)
/-- what is wanted behind -/
structure OutE (W : Wd) (H : Hp) (R : DQ) (xq : XQ) (Q : VK) : Prop where
  rt : ∀ W' H' d v st', Le W H W' H' → Rel G W' H' st' → Rp G.K W' H' d v → R d st' → Q v H'
  xq : ∀ W' H' C st', Le W H W' H' → Rel G W' H' st' → xq C st' → E (.ref C) none H'
structure OutT (W : Wd) (H : Hp) (R : Bool → Sto → Prop) (xq : XQ) (Q : Bool → Hp → Prop) : Prop where
  rt : ∀ W' H' b st', Le W H W' H' → Rel G W' H' st' → R b st' → Q b H'
  xq : ∀ W' H' C st', Le W H W' H' → Rel G W' H' st' → xq C st' → E (.ref C) none H'
structure OutA (W : Wd) (H : Hp) (R : List D → Sto → Prop) (xq : XQ) (Q : List V → Hp → Prop) : Prop where
  rt : ∀ W' H' ds vs st', Le W H W' H' → Rel G W' H' st' → RpL G.K W' H' ds vs → R ds st' → Q vs H'
  xq : ∀ W' H' C st', Le W H W' H' → Rel G W' H' st' → xq C st' → E (.ref C) none H'
structure OutS (W : Wd) (H : Hp) (e : DEnds) (Dn : Ends) : Prop where
  nx : ∀ W' H' ρ' σ' st', Le W H W' H' → Rel G W' H' st' → RpE G.K W' H' ρ' σ' → e.nx ρ' st' → Dn.nx σ' H'
  bk : ∀ W' H' ρ' σ' st', Le W H W' H' → Rel G W' H' st' → RpE G.K W' H' ρ' σ' → e.bk ρ' st' → Dn.bk σ' H'
  ct : ∀ W' H' ρ' σ' st', Le W H W' H' → Rel G W' H' st' → RpE G.K W' H' ρ' σ' → e.ct ρ' st' → Dn.ct σ' H'
  rt : ∀ W' H' d v st', Le W H W' H' → Rel G W' H' st' → Rp G.K W' H' d v → e.rt d st' → Dn.rt v H'
  xq : ∀ W' H' C st', Le W H W' H' → Rel G W' H' st' → e.xq C st' → E (.ref C) none H'
def tD (w : ME) : TE := fun σ H Q => ∃ W ρ st R xq, Rel G W H st ∧ RpE G.K W H ρ σ ∧ w ρ st R xq ∧ OutE G E W H R xq Q
def tDT (w : MT) : TT := fun σ H Q => ∃ W ρ st R xq, Rel G W H st ∧ RpE G.K W H ρ σ ∧ w ρ st R xq ∧ OutT G E W H R xq Q
def tDA (w : MA) : TA := fun σ H Q => ∃ W ρ st R xq, Rel G W H st ∧ RpE G.K W H ρ σ ∧ w ρ st R xq ∧ OutA G E W H R xq Q
def tDS (w : MS) : TS := fun Dn σ H => ∃ W ρ st e, Rel G W H st ∧ RpE G.K W H ρ σ ∧ w e ρ st ∧ OutS G E W H e Dn
end
section
variable {G : Gm} {E : XK} {W W' : Wd} {H H' : Hp}
theorem OutE.le {R : DQ} {xq : XQ} {Q : VK} (o : OutE G E W H R xq Q) (l : Le W H W' H') : OutE G E W' H' R xq Q :=
  ⟨fun _ _ _ _ _ q => o.rt _ _ _ _ _ (l.trans q), fun _ _ _ _ q => o.xq _ _ _ _ (l.trans q)⟩
theorem OutT.le {R : Bool → Sto → Prop} {xq : XQ} {Q : Bool → Hp → Prop} (o : OutT G E W H R xq Q) (l : Le W H W' H') : OutT G E W' H' R xq Q :=
  ⟨fun _ _ _ _ q => o.rt _ _ _ _ (l.trans q), fun _ _ _ _ q => o.xq _ _ _ _ (l.trans q)⟩
theorem OutA.le {R : List D → Sto → Prop} {xq : XQ} {Q : List V → Hp → Prop} (o : OutA G E W H R xq Q) (l : Le W H W' H') : OutA G E W' H' R xq Q :=
  ⟨fun _ _ _ _ _ q => o.rt _ _ _ _ _ (l.trans q), fun _ _ _ _ q => o.xq _ _ _ _ (l.trans q)⟩
theorem OutS.le {e : DEnds} {Dn : Ends} (o : OutS G E W H e Dn) (l : Le W H W' H') : OutS G E W' H' e Dn :=
  ⟨fun _ _ _ _ _ q => o.nx _ _ _ _ _ (l.trans q), fun _ _ _ _ _ q => o.bk _ _ _ _ _ (l.trans q), fun _ _ _ _ _ q => o.ct _ _ _ _ _ (l.trans q), fun _ _ _ _ _ q => o.rt _ _ _ _ _ (l.trans q), fun _ _ _ _ q => o.xq _ _ _ _ (l.trans q)⟩
end
/-! ## the judgements -/
def PDE (G : Gm) (E : XK) (X : Cx) (e : Expr) (w : ME) : Prop := PE X e (tD G E w)
def PDT (G : Gm) (E : XK) (X : Cx) (e : Expr) (w : MT) : Prop := PT X e (tDT G E w)
def PDW (G : Gm) (E : XK) (X : Cx) (e : Expr) (w : MT) : Prop := PW X e (tDT G E w)
def PDA (G : Gm) (E : XK) (X : Cx) (es : List Expr) (w : MA) : Prop := PA X es (tDA G E w)
def PDS (G : Gm) (E : XK) (X : Cx) (s : Stmt) (w : MS) : Prop := PS X s (tDS G E w)
def PDSs (G : Gm) (E : XK) (X : Cx) (s : List Stmt) (w : MS) : Prop := PSs X s (tDS G E w)
theorem PE.weak {X : Cx} {e : Expr} {t t' : TE} (h : PE X e t) (hw : ∀ σ H Q, t' σ H Q → t σ H Q) : PE X e t' := ⟨fun pins s σ H Q I q => h.run pins s σ H Q I (hw _ _ _ q)⟩
theorem PT.weak {X : Cx} {e : Expr} {t t' : TT} (h : PT X e t) (hw : ∀ σ H Q, t' σ H Q → t σ H Q) : PT X e t' := ⟨fun pins s σ H Q I q => h.run pins s σ H Q I (hw _ _ _ q)⟩
theorem PW.weak {X : Cx} {e : Expr} {t t' : TT} (h : PW X e t) (hw : ∀ σ H Q, t' σ H Q → t σ H Q) : PW X e t' := ⟨fun wh pins s σ H Q I q => h.run wh pins s σ H Q I (hw _ _ _ q)⟩
theorem PA.weak {X : Cx} {e : List Expr} {t t' : TA} (h : PA X e t) (hw : ∀ σ H Q, t' σ H Q → t σ H Q) : PA X e t' := ⟨fun pos pins s σ H Q I q => h.run pos pins s σ H Q I (hw _ _ _ q)⟩
theorem PS.weak {X : Cx} {s : Stmt} {t t' : TS} (h : PS X s t) (hw : ∀ D σ H, t' D σ H → t D σ H) : PS X s t' := ⟨fun pins s σ H D I q => h.run pins s σ H D I (hw _ _ _ q)⟩
theorem PSs.weak {X : Cx} {s : List Stmt} {t t' : TS} (h : PSs X s t) (hw : ∀ D σ H, t' D σ H → t D σ H) : PSs X s t' := ⟨fun pins s σ H D I q => h.run pins s σ H D I (hw _ _ _ q)⟩
end DL

set_option Elab.async false
set_option linter.all false
set_option maxRecDepth 100000
set_option autoImplicit false
namespace DL
open PySem PySem.Spec PyProof.Rows L2

/-! ## what data are -/
/-- a handle of a list: as the list -/
def dr (st : Sto) (d : D) : D := match d with
  | .hdl k => match st[k]? with
    | some (.lst xs) => .lst xs
    | _ => .hdl k
  | d => d
def onI (d : D) (k : Int → Prop) : Prop := match d with | .int i => k i | _ => False
def onB (d : D) (k : Bool → Prop) : Prop := match d with | .bl b => k b | _ => False
def onS (d : D) (k : Str → Prop) : Prop := match d with | .str b => k b | _ => False
/-- the items of a list, of a tuple -/
def onL (st : Sto) (d : D) (k : List D → Prop) : Prop := match dr st d with | .lst xs => k xs | .scr xs => k xs | _ => False
def onQ (st : Sto) (d : D) (k : List D → Prop) : Prop := match dr st d with | .lst xs => k xs | .scr xs => k xs | .tup xs => k xs | _ => False
section
variable {G : Gm} {W : Wd} {H : Hp} {st : Sto} {d : D} {v : V}
theorem dr_int {i : Int} (e : dr st d = .int i) : d = .int i := by
  unfold dr at e; split at e
  · split at e <;> cases e
  · exact e
theorem dr_str {i : Str} (e : dr st d = .str i) : d = .str i := by
  unfold dr at e; split at e
  · split at e <;> cases e
  · exact e
theorem dr_tup {i : List D} (e : dr st d = .tup i) : d = .tup i := by
  unfold dr at e; split at e
  · split at e <;> cases e
  · exact e
theorem dr_scr {i : List D} (e : dr st d = .scr i) : d = .scr i := by
  unfold dr at e; split at e
  · split at e <;> cases e
  · exact e
theorem dr_lst {xs : List D} (r : Rel G W H st) (p : Rp G.K W H d v) (e : dr st d = .lst xs) : ∃ a vs, v = .ref a ∧ H a = some (.lst vs) ∧ RpL G.K W H xs vs := by
  unfold dr at e; split at e
  · split at e
    · rename_i k _ ys q
      cases e
      simp only [Rp] at p
      obtain ⟨a, h1, rfl⟩ := p
      obtain ⟨b, h2, h3⟩ := r.cell _ _ q
      rw [h1] at h2; cases h2
      obtain ⟨vs, h4, h5⟩ := h3
      exact ⟨a, vs, rfl, h4, h5⟩
    · cases e
  · subst e
    simp only [Rp] at p
    obtain ⟨a, vs, rfl, _, _, h3, h4⟩ := p
    exact ⟨a, vs, rfl, h3, h4⟩
theorem scr_sq {xs : List D} (p : Rp G.K W H (.scr xs) v) : ∃ a vs, v = .ref a ∧ SqL G.K H a vs ∧ RpL G.K W H xs vs := by
  simp only [Rp] at p
  obtain ⟨a, vs, rfl, h3, h4⟩ := p
  exact ⟨a, vs, rfl, h3.sq, h4⟩
theorem tup_sq {xs : List D} (p : Rp G.K W H (.tup xs) v) : ∃ a vs, v = .ref a ∧ SqT G.K H a vs ∧ RpL G.K W H xs vs := by
  simp only [Rp] at p
  obtain ⟨a, vs, rfl, h3, h4⟩ := p
  exact ⟨a, vs, rfl, h3.sq, h4⟩
theorem tup_sqK {K : PySem.W.Frag} {xs : List D} (p : Rp K W H (.tup xs) v) : ∃ a vs, v = .ref a ∧ SqT K H a vs ∧ RpL K W H xs vs := by
  simp only [Rp] at p
  obtain ⟨a, vs, rfl, h3, h4⟩ := p
  exact ⟨a, vs, rfl, h3.sq, h4⟩
theorem onI_of {k : Int → Prop} (p : Rp G.K W H d v) (h : onI d k) : ∃ i, v = .int i ∧ k i := by
  unfold onI at h; split at h
  · simp only [Rp] at p; exact ⟨_, p, h⟩
  · cases h
theorem onB_of {k : Bool → Prop} (p : Rp G.K W H d v) (h : onB d k) : ∃ i, v = .bl i ∧ k i := by
  unfold onB at h; split at h
  · simp only [Rp] at p; exact ⟨_, p, h⟩
  · cases h
theorem onS_of {k : Str → Prop} (p : Rp G.K W H d v) (h : onS d k) : ∃ i, v = .str i ∧ k i := by
  unfold onS at h; split at h
  · simp only [Rp] at p; exact ⟨_, p, h⟩
  · cases h
theorem onL_of {k : List D → Prop} (r : Rel G W H st) (p : Rp G.K W H d v) (h : onL st d k) : ∃ a vs xs, v = .ref a ∧ SqL G.K H a vs ∧ RpL G.K W H xs vs ∧ k xs := by
  unfold onL at h
  split at h
  · rename_i xs e
    obtain ⟨a, vs, q1, q2, q3⟩ := dr_lst r p e
    exact ⟨a, vs, xs, q1, SqL.of q2, q3, h⟩
  · rename_i xs e
    obtain rfl := dr_scr e
    obtain ⟨a, vs, q1, q2, q3⟩ := scr_sq p
    exact ⟨a, vs, xs, q1, q2, q3, h⟩
  · cases h
theorem onQ_of {k : List D → Prop} (r : Rel G W H st) (p : Rp G.K W H d v) (h : onQ st d k) : ∃ a vs xs, v = .ref a ∧ (SqL G.K H a vs ∨ SqT G.K H a vs) ∧ RpL G.K W H xs vs ∧ k xs := by
  unfold onQ at h
  split at h
  · rename_i xs e
    obtain ⟨a, vs, q1, q2, q3⟩ := dr_lst r p e
    exact ⟨a, vs, xs, q1, .inl (SqL.of q2), q3, h⟩
  · rename_i xs e
    obtain rfl := dr_scr e
    obtain ⟨a, vs, q1, q2, q3⟩ := scr_sq p
    exact ⟨a, vs, xs, q1, .inl q2, q3, h⟩
  · rename_i xs e
    obtain rfl := dr_tup e
    obtain ⟨a, vs, q1, q2, q3⟩ := tup_sq p
    exact ⟨a, vs, xs, q1, .inr q2, q3, h⟩
  · cases h
end
@[simp] theorem onI_int (i : Int) (k : Int → Prop) : onI (.int i) k = k i := rfl
@[simp] theorem onB_bl (i : Bool) (k : Bool → Prop) : onB (.bl i) k = k i := rfl
@[simp] theorem onS_str (i : Str) (k : Str → Prop) : onS (.str i) k = k i := rfl
@[simp] theorem dr_intD (st : Sto) (i : Int) : dr st (.int i) = .int i := rfl
@[simp] theorem dr_blD (st : Sto) (i : Bool) : dr st (.bl i) = .bl i := rfl
@[simp] theorem dr_nonD (st : Sto) : dr st .non = .non := rfl
@[simp] theorem dr_strD (st : Sto) (i : Str) : dr st (.str i) = .str i := rfl
@[simp] theorem dr_lstD (st : Sto) (i : List D) : dr st (.lst i) = .lst i := rfl
@[simp] theorem dr_scrD (st : Sto) (i : List D) : dr st (.scr i) = .scr i := rfl
@[simp] theorem dr_tupD (st : Sto) (i : List D) : dr st (.tup i) = .tup i := rfl
theorem dr_hdl {st : Sto} {k : Nat} {xs : List D} (h : st[k]? = some (.lst xs)) : dr st (.hdl k) = .lst xs := by
  show (match st[k]? with | some (.lst xs) => D.lst xs | _ => .hdl k) = _
  rw [h]
@[simp] theorem onL_lst (st : Sto) (i : List D) (k : List D → Prop) : onL st (.lst i) k = k i := rfl
@[simp] theorem onL_scr (st : Sto) (i : List D) (k : List D → Prop) : onL st (.scr i) k = k i := rfl
@[simp] theorem onQ_lst (st : Sto) (i : List D) (k : List D → Prop) : onQ st (.lst i) k = k i := rfl
@[simp] theorem onQ_scr (st : Sto) (i : List D) (k : List D → Prop) : onQ st (.scr i) k = k i := rfl
@[simp] theorem onQ_tup (st : Sto) (i : List D) (k : List D → Prop) : onQ st (.tup i) k = k i := rfl
theorem onL_hdl {st : Sto} {j : Nat} {xs : List D} {k : List D → Prop} (h : st[j]? = some (.lst xs)) : onL st (.hdl j) k = k xs := by
  unfold onL; rw [dr_hdl h]
theorem onQ_hdl {st : Sto} {j : Nat} {xs : List D} {k : List D → Prop} (h : st[j]? = some (.lst xs)) : onQ st (.hdl j) k = k xs := by
  unfold onQ; rw [dr_hdl h]

/-! ## names, constants -/
section
variable {G : Gm} {E : XK} {X : Cx}
@[simp] def mVar (i : Nat) : ME := fun ρ st R _ => match ρ[i]? with | some (some d) => R d st | _ => False
@[simp] def mC (d : D) : ME := fun _ st R _ => R d st
theorem pd_var (i : Nat) {x : Str} {pos : Pos} (hN : X.N[i]? = some x := by rfl) (hv : Vis X.env.scope x := by first | exact Or.inl rfl | exact Or.inr (Or.inl rfl) | exact Or.inr (Or.inr rfl)) (hd : (x == ("__debug__" : Str)) = false := by decide)
    (hcd : (x == ("__classdict__" : Str)) = false := by decide) : PDE G E X (.Name x pos) (mVar i) :=
  PE.weak (pe_var hN hv hd hcd) fun σ H Q ⟨W, ρ, st, R, xq, rel, re, w, o⟩ => by
    unfold mVar at w
    split at w
    · rename_i d e
      obtain ⟨v, h1, h2⟩ := re.get i d e
      exact ⟨v, h1, o.rt W H d v st Le.refl rel h2 w⟩
    · cases w
theorem pd_c {e : Expr} {d : D} {v : V} (h : PE X e (tC v)) (hr : ∀ W H, Rp G.K W H d v) : PDE G E X e (mC d) :=
  PE.weak h fun σ H Q ⟨W, ρ, st, R, xq, rel, re, w, o⟩ => o.rt W H d v st Le.refl rel (hr W H) w
theorem pd_int {i j pos} : PDE G E X (.Constant (.int i) j pos) (mC (.int i)) := pd_c pe_int fun _ _ => rfl
theorem pd_bl {i j pos} : PDE G E X (.Constant (.bool i) j pos) (mC (.bl i)) := pd_c pe_bl fun _ _ => rfl
theorem pd_non {j pos} : PDE G E X (.Constant .none j pos) (mC .non) := pd_c pe_non fun _ _ => rfl
theorem pd_str {i j pos} : PDE G E X (.Constant (.str i) j pos) (mC (.str i)) := pd_c pe_str fun _ _ => rfl

/-! ## two-place operations -/
abbrev D2 := D → D → Sto → DQ → Prop
def OpD (G : Gm) (r : R2) (r' : D2) : Prop := ∀ (E : XK) (W : Wd) (H : Hp) (st : Sto) (dx dy : D) (x y : V) (R : DQ) (xq : XQ) (Q : VK),
  Rel G W H st → Rp G.K W H dx x → Rp G.K W H dy y → r' dx dy st R → OutE G E W H R xq Q → r x y H Q
@[simp] def mOp (r' : D2) (wa wb : ME) : ME := fun ρ st R xq => wa ρ st (fun x st1 => wb ρ st1 (fun y st2 => r' x y st2 R) xq) xq
theorem op_lift {r : R2} {r' : D2} {wa wb : ME} (hd : OpD G r r') {σ : L2.St} {H : Hp} {Q : VK} (h : tD G E (mOp r' wa wb) σ H Q) :
    tOp r (tD G E wa) (tD G E wb) σ H Q := by
  obtain ⟨W, ρ, st, R, xq, rel, re, w, o⟩ := h
  refine ⟨W, ρ, st, _, xq, rel, re, w, ⟨fun W1 H1 dx x st1 l1 rel1 rx w1 => ?_, o.xq⟩⟩
  refine ⟨W1, ρ, st1, _, xq, rel1, re.le l1, w1, ⟨fun W2 H2 dy y st2 l2 rel2 ry w2 => ?_, (o.le l1).xq⟩⟩
  exact hd E W2 H2 st2 dx dy x y R xq Q rel2 (rx.le l2) ry w2 (o.le (l1.trans l2))
theorem pd_op {a b : Expr} {wa wb : ME} {op : Operator} {r : R2} {r' : D2} {pos : Pos} (ho : OpR X (binaryOp op) r) (hd : OpD G r r') (ha : PDE G E X a wa) (hb : PDE G E X b wb) : PDE G E X (.BinOp a op b pos) (mOp r' wa wb) :=
  PE.weak (pe_op ho ha hb) fun _ _ _ h => op_lift hd h
theorem pd_cmp {a b : Expr} {wa wb : ME} {op : CmpOp} {r : R2} {r' : D2} {pos : Pos} (ho : OpR X (compareOp op) r) (hd : OpD G r r') (ha : PDE G E X a wa) (hb : PDE G E X b wb) (hm : behindInMarks op b = false := by first | exact nomark _ | rfl) : PDE G E X (.Compare a [op] [b] pos) (mOp r' wa wb) :=
  PE.weak (pe_cmpR ho ha hb hm) fun _ _ _ h => op_lift hd h
/-- a bool as a test -/
@[simp] def mTest (w : ME) : MT := fun ρ st R xq => w ρ st (fun d st' => onB d fun b => R b st') xq
theorem test_out {W : Wd} {H : Hp} {R : Bool → Sto → Prop} {xq : XQ} {Q : Bool → Hp → Prop} (o : OutT G E W H R xq Q) :
    OutE G E W H (fun d st' => onB d fun b => R b st') xq (fun x H' => ∃ k, x = .bl k ∧ Q k H') :=
  ⟨fun W' H' d v st' l rel rv h => by
    obtain ⟨b, e, h⟩ := onB_of rv h
    exact ⟨b, e, o.rt W' H' b st' l rel h⟩, o.xq⟩
theorem pt_cmp {a b : Expr} {wa wb : ME} {op : CmpOp} {r : R2} {r' : D2} {pos : Pos} (ho : OpR X (compareOp op) r) (hd : OpD G r r') (ha : PDE G E X a wa) (hb : PDE G E X b wb) (hm : behindInMarks op b = false := by first | exact nomark _ | rfl) : PDT G E X (.Compare a [op] [b] pos) (mTest (mOp r' wa wb)) :=
  PT.weak (pt_cmpR ho ha hb hm) fun σ H Q ⟨W, ρ, st, R, xq, rel, re, w, o⟩ => op_lift hd ⟨W, ρ, st, _, xq, rel, re, w, test_out o⟩
theorem pt_val {e : Expr} {w : ME} (h : PDE G E X e w) (he : ∀ whole, isTrue e X.env whole = (do let v ← whole; standAt e.pos; holding [v] (truthy v)) := by intro _; rfl) : PDT G E X e (mTest w) :=
  PT.weak (L2.pt_val h he) fun σ H Q ⟨W, ρ, st, R, xq, rel, re, w, o⟩ => ⟨W, ρ, st, _, xq, rel, re, w, test_out o⟩
@[simp] def mAnd (t u : MT) : MT := fun ρ st R xq => t ρ st (fun c st1 => if c = true then u ρ st1 R xq else R false st1) xq
@[simp] def mOr (t u : MT) : MT := fun ρ st R xq => t ρ st (fun c st1 => if c = true then R true st1 else u ρ st1 R xq) xq
@[simp] def mNot (t : MT) : MT := fun ρ st R xq => t ρ st (fun c st1 => R (!c) st1) xq
theorem pw_and1 {a : Expr} {t : MT} {pos : Pos} (h : PDT G E X a t) : PDW G E X (.BoolOp .And [a] pos) t := L2.pw_and1 h
theorem pw_or1 {a : Expr} {t : MT} {pos : Pos} (h : PDT G E X a t) : PDW G E X (.BoolOp .Or [a] pos) t := L2.pw_or1 h
theorem pw_and {a b : Expr} {rest : List Expr} {t u : MT} {pos : Pos} (ha : PDT G E X a t) (hb : PDW G E X (.BoolOp .And (b :: rest) pos) u) : PDW G E X (.BoolOp .And (a :: b :: rest) pos) (mAnd t u) :=
  PW.weak (L2.pw_and ha hb) fun σ H Q ⟨W, ρ, st, R, xq, rel, re, w, o⟩ =>
    ⟨W, ρ, st, _, xq, rel, re, w, ⟨fun W1 H1 c st1 l1 rel1 w1 => by
      cases c with
      | true => exact ⟨W1, ρ, st1, R, xq, rel1, re.le l1, w1, o.le l1⟩
      | false => exact o.rt W1 H1 false st1 l1 rel1 w1, o.xq⟩⟩
theorem pw_or {a b : Expr} {rest : List Expr} {t u : MT} {pos : Pos} (ha : PDT G E X a t) (hb : PDW G E X (.BoolOp .Or (b :: rest) pos) u) : PDW G E X (.BoolOp .Or (a :: b :: rest) pos) (mOr t u) :=
  PW.weak (L2.pw_or ha hb) fun σ H Q ⟨W, ρ, st, R, xq, rel, re, w, o⟩ =>
    ⟨W, ρ, st, _, xq, rel, re, w, ⟨fun W1 H1 c st1 l1 rel1 w1 => by
      cases c with
      | false => exact ⟨W1, ρ, st1, R, xq, rel1, re.le l1, w1, o.le l1⟩
      | true => exact o.rt W1 H1 true st1 l1 rel1 w1, o.xq⟩⟩
theorem pt_w {a : Expr} {t : MT} (h : PDW G E X a t) : PDT G E X a t := PW.pt h
theorem pt_not {a : Expr} {t : MT} {pos : Pos} (h : PDT G E X a t) : PDT G E X (.UnaryOp .Not a pos) (mNot t) :=
  PT.weak (L2.pt_not h) fun σ H Q ⟨W, ρ, st, R, xq, rel, re, w, o⟩ =>
    ⟨W, ρ, st, _, xq, rel, re, w, ⟨fun W1 H1 c st1 l1 rel1 w1 => o.rt W1 H1 (!c) st1 l1 rel1 w1, o.xq⟩⟩
/-- .. as values -/
@[simp] def mAndV (wa wb : ME) : ME := fun ρ st R xq => wa ρ st (fun d st1 => onB d fun c => if c = true then wb ρ st1 R xq else R (.bl false) st1) xq
@[simp] def mOrV (wa wb : ME) : ME := fun ρ st R xq => wa ρ st (fun d st1 => onB d fun c => if c = true then R (.bl true) st1 else wb ρ st1 R xq) xq
@[simp] def mNotV (wa : ME) : ME := fun ρ st R xq => wa ρ st (fun d st1 => onB d fun c => R (.bl (!c)) st1) xq
theorem pd_one {op} {a : Expr} {w : ME} {pos : Pos} (h : PDE G E X a w) : PDE G E X (.BoolOp op [a] pos) w := pe_one h
theorem pd_and {a b : Expr} {rest : List Expr} {wa wb : ME} {pos : Pos} (ha : PDE G E X a wa) (hb : PDE G E X (.BoolOp .And (b :: rest) pos) wb) : PDE G E X (.BoolOp .And (a :: b :: rest) pos) (mAndV wa wb) :=
  PE.weak (pe_and ha hb) fun σ H Q ⟨W, ρ, st, R, xq, rel, re, w, o⟩ =>
    ⟨W, ρ, st, _, xq, rel, re, w, ⟨fun W1 H1 d v st1 l1 rel1 rv w1 => by
      obtain ⟨c, e, w1⟩ := onB_of rv w1
      refine ⟨c, e, ?_⟩
      cases c with
      | true => exact ⟨W1, ρ, st1, R, xq, rel1, re.le l1, w1, o.le l1⟩
      | false => exact o.rt W1 H1 (.bl false) _ st1 l1 rel1 rfl w1, o.xq⟩⟩
theorem pd_or {a b : Expr} {rest : List Expr} {wa wb : ME} {pos : Pos} (ha : PDE G E X a wa) (hb : PDE G E X (.BoolOp .Or (b :: rest) pos) wb) : PDE G E X (.BoolOp .Or (a :: b :: rest) pos) (mOrV wa wb) :=
  PE.weak (pe_or ha hb) fun σ H Q ⟨W, ρ, st, R, xq, rel, re, w, o⟩ =>
    ⟨W, ρ, st, _, xq, rel, re, w, ⟨fun W1 H1 d v st1 l1 rel1 rv w1 => by
      obtain ⟨c, e, w1⟩ := onB_of rv w1
      refine ⟨c, e, ?_⟩
      cases c with
      | false => exact ⟨W1, ρ, st1, R, xq, rel1, re.le l1, w1, o.le l1⟩
      | true => exact o.rt W1 H1 (.bl true) _ st1 l1 rel1 rfl w1, o.xq⟩⟩
theorem pd_not {a : Expr} {wa : ME} {pos : Pos} (ha : PDE G E X a wa) : PDE G E X (.UnaryOp .Not a pos) (mNotV wa) :=
  PE.weak (pe_not ha) fun σ H Q ⟨W, ρ, st, R, xq, rel, re, w, o⟩ =>
    ⟨W, ρ, st, _, xq, rel, re, w, ⟨fun W1 H1 d v st1 l1 rel1 rv w1 => by
      obtain ⟨c, e, w1⟩ := onB_of rv w1
      exact ⟨c, e, o.rt W1 H1 (.bl (!c)) _ st1 l1 rel1 rfl w1⟩, o.xq⟩⟩
@[simp] def mIf (t : MT) (wa wb : ME) : ME := fun ρ st R xq => t ρ st (fun c st1 => if c = true then wa ρ st1 R xq else wb ρ st1 R xq) xq
theorem pd_if {c a b : Expr} {t : MT} {wa wb : ME} {pos : Pos} (hc : PDT G E X c t) (ha : PDE G E X a wa) (hb : PDE G E X b wb) : PDE G E X (.IfExp c a b pos) (mIf t wa wb) :=
  PE.weak (pe_ifExp hc ha hb) fun σ H Q ⟨W, ρ, st, R, xq, rel, re, w, o⟩ =>
    ⟨W, ρ, st, _, xq, rel, re, w, ⟨fun W1 H1 c st1 l1 rel1 w1 => by
      cases c with
      | true => exact ⟨W1, ρ, st1, R, xq, rel1, re.le l1, w1, o.le l1⟩
      | false => exact ⟨W1, ρ, st1, R, xq, rel1, re.le l1, w1, o.le l1⟩, o.xq⟩⟩

/-! ### numbers -/
@[simp] def dII (C : Int → Int → Prop) (g : Int → Int → D) : D2 := fun x y st R => onI x fun i => onI y fun j => C i j ∧ R (g i j) st
@[simp] def dII0 (g : Int → Int → D) : D2 := fun x y st R => onI x fun i => onI y fun j => R (g i j) st
theorem od_ii {C : Int → Int → Prop} {g : Int → Int → V} {g' : Int → Int → D} (h : ∀ W H i j, Rp G.K W H (g' i j) (g i j)) : OpD G (rI C g) (dII C g') := by
  intro E W H st dx dy x y R xq Q rel rx ry w o
  obtain ⟨i, e1, w⟩ := onI_of rx w
  obtain ⟨j, e2, hc, w⟩ := onI_of ry w
  exact ⟨i, j, e1, e2, hc, o.rt W H _ _ st Le.refl rel (h W H i j) w⟩
theorem od_ii0 {g : Int → Int → V} {g' : Int → Int → D} (h : ∀ W H i j, Rp G.K W H (g' i j) (g i j)) : OpD G (rI0 g) (dII0 g') := by
  intro E W H st dx dy x y R xq Q rel rx ry w o
  obtain ⟨i, e1, w⟩ := onI_of rx w
  obtain ⟨j, e2, w⟩ := onI_of ry w
  exact ⟨i, j, e1, e2, o.rt W H _ _ st Le.refl rel (h W H i j) w⟩
theorem OpD.or {r r' : R2} {d d' : D2} (h : OpD G r d) (h' : OpD G r' d') : OpD G (fun x y H Q => r x y H Q ∨ r' x y H Q) (fun x y st R => d x y st R ∨ d' x y st R) := by
  intro E W H st dx dy x y R xq Q rel rx ry w o
  rcases w with w | w
  · exact .inl (h E W H st dx dy x y R xq Q rel rx ry w o)
  · exact .inr (h' E W H st dx dy x y R xq Q rel rx ry w o)
@[simp] abbrev dSub : D2 := dII0 fun i j => .int (i - j)
theorem od_sub : OpD G (rI0 fun i j => .int (i - j)) dSub := od_ii0 fun _ _ _ _ => rfl
@[simp] abbrev dMulI : D2 := dII CMulX fun i j => .int (i * j)
@[simp] abbrev dDiv : D2 := dII CDivW fun i j => .int (i / j)
theorem od_div : OpD G (rI CDivW fun i j => .int (i / j)) dDiv := od_ii fun _ _ _ _ => rfl
@[simp] abbrev dMod : D2 := dII (fun _ j => 0 < j) fun i j => .int (i % j)
theorem od_mod : OpD G (rI (fun _ j => 0 < j) fun i j => .int (i % j)) dMod := od_ii fun _ _ _ _ => rfl
@[simp] abbrev dPow : D2 := dII CPow fun i j => .int (i ^ j.toNat)
theorem od_pow : OpD G (rI CPow fun i j => .int (i ^ j.toNat)) dPow := od_ii fun _ _ _ _ => rfl
@[simp] abbrev dShl : D2 := dII CPow fun i j => .int (i * 2 ^ j.toNat)
theorem od_shl : OpD G (rI CPow fun i j => .int (i * 2 ^ j.toNat)) dShl := od_ii fun _ _ _ _ => rfl
@[simp] abbrev dShr : D2 := dII (fun _ j => 0 ≤ j) fun i j => .int (i / 2 ^ j.toNat)
theorem od_shr : OpD G (rI (fun _ j => 0 ≤ j) fun i j => .int (i / 2 ^ j.toNat)) dShr := od_ii fun _ _ _ _ => rfl
@[simp] abbrev dBand : D2 := dII0 fun i j => .int (Builtin.bitAnd i j)
theorem od_band : OpD G (rI0 fun i j => .int (Builtin.bitAnd i j)) dBand := od_ii0 fun _ _ _ _ => rfl
@[simp] abbrev dBor : D2 := dII0 fun i j => .int (Builtin.bitOr i j)
theorem od_bor : OpD G (rI0 fun i j => .int (Builtin.bitOr i j)) dBor := od_ii0 fun _ _ _ _ => rfl
@[simp] abbrev dBxor : D2 := dII0 fun i j => .int (Builtin.bitXor i j)
theorem od_bxor : OpD G (rI0 fun i j => .int (Builtin.bitXor i j)) dBxor := od_ii0 fun _ _ _ _ => rfl
@[simp] abbrev dLt : D2 := dII0 fun i j => .bl (decide (i < j))
theorem od_lt : OpD G (rI0 fun i j => .bl (decide (i < j))) dLt := od_ii0 fun _ _ _ _ => rfl
@[simp] abbrev dLe : D2 := dII0 fun i j => .bl (decide (i ≤ j))
theorem od_le : OpD G (rI0 fun i j => .bl (decide (i ≤ j))) dLe := od_ii0 fun _ _ _ _ => rfl
@[simp] abbrev dGt : D2 := dII0 fun i j => .bl (decide (j < i))
theorem od_gt : OpD G (rI0 fun i j => .bl (decide (j < i))) dGt := od_ii0 fun _ _ _ _ => rfl
@[simp] abbrev dGe : D2 := dII0 fun i j => .bl (decide (j ≤ i))
theorem od_ge : OpD G (rI0 fun i j => .bl (decide (j ≤ i))) dGe := od_ii0 fun _ _ _ _ => rfl

/-! ### + : numbers, texts, lists -/
def rAddS : R2 := fun x y H Q => ∃ i j, x = .str i ∧ y = .str j ∧ i.length + j.length ≤ sizeLine ∧ Q (.str (i ++ j)) H
def rADD : R2 := fun x y H Q => rI0 (fun i j => .int (i + j)) x y H Q ∨ rAddS x y H Q ∨ rCat x y H Q
theorem op_ADD : OpR X (binaryOp .Add) rADD := op_add.or ((show OpR X (binaryOp .Add) rAddS from op_add_str).or op_cat)
@[simp] def dAdd : D2 := fun x y st R => match dr st x, dr st y with
  | .int i, .int j => R (.int (i + j)) st
  | .str i, .str j => i.length + j.length ≤ sizeLine ∧ R (.str (i ++ j)) st
  | .lst a, .lst b => a.length + b.length ≤ sizeLine ∧ R (.lst (a ++ b)) st
  | _, _ => False
theorem od_add : OpD G rADD dAdd := by
  intro E W H st dx dy x y R xq Q rel rx ry w o
  unfold dAdd at w
  split at w
  · rename_i i j e1 e2
    obtain rfl := dr_int e1
    obtain rfl := dr_int e2
    simp only [Rp] at rx ry
    exact .inl ⟨i, j, rx, ry, o.rt W H (.int (i + j)) _ st Le.refl rel rfl w⟩
  · rename_i i j e1 e2
    obtain rfl := dr_str e1
    obtain rfl := dr_str e2
    simp only [Rp] at rx ry
    exact .inr (.inl ⟨i, j, rx, ry, w.1, o.rt W H (.str (i ++ j)) _ st Le.refl rel rfl w.2⟩)
  · rename_i a b e1 e2
    obtain ⟨p, vs, h1, h2, h3⟩ := dr_lst rel rx e1
    obtain ⟨q, us, h4, h5, h6⟩ := dr_lst rel ry e2
    refine .inr (.inr ⟨p, q, vs, us, h1, h4, h2, h5, ?_, fun l hl => ?_⟩)
    · rw [h3.length, h6.length]; exact w.1
    · exact o.rt W _ (.lst (a ++ b)) _ st (Le.fresh hl) (rel.fresh hl) (newL rel hl (h3.append h6)) w.2
  · cases w
/-! ### * : numbers, a list so often -/
def rMUL : R2 := fun x y H Q => rI CMulX (fun i j => .int (i * j)) x y H Q ∨ rRep x y H Q
theorem op_MUL : OpR X (binaryOp .Mult) rMUL := op_mulX.or op_rep
@[simp] def dMul : D2 := fun x y st R => match dr st x, y with
  | .int i, .int j => CMulX i j ∧ R (.int (i * j)) st
  | .lst a, .int k => -(2 ^ 63) ≤ k ∧ k < 2 ^ 63 ∧ a.length * k.toNat ≤ sizeLine ∧ R (.lst (List.replicate k.toNat a).flatten) st
  | _, _ => False
theorem RpL.rep {K : PySem.W.Frag} {W : Wd} {H : Hp} {ds : List D} {vs : List V} (h : RpL K W H ds vs) : ∀ k : Nat, RpL K W H (List.replicate k ds).flatten (List.replicate k vs).flatten
  | 0 => RpL.nil
  | k + 1 => by
    simp only [List.replicate_succ, List.flatten_cons]
    exact h.append (RpL.rep h k)
theorem od_mul : OpD G rMUL dMul := by
  intro E W H st dx dy x y R xq Q rel rx ry w o
  unfold dMul at w
  split at w
  · rename_i i j e1
    obtain rfl := dr_int e1
    simp only [Rp] at rx ry
    exact .inl ⟨i, j, rx, ry, w.1, o.rt W H (.int (i * j)) _ st Le.refl rel rfl w.2⟩
  · rename_i a k e1
    obtain ⟨p, vs, h1, h2, h3⟩ := dr_lst rel rx e1
    simp only [Rp] at ry
    obtain ⟨w1, w2, w3, w4⟩ := w
    refine .inr ⟨p, k, vs, h1, ry, h2, w1, w2, by rw [h3.length]; exact w3, fun l hl => ?_⟩
    exact o.rt W _ (.lst _) _ st (Le.fresh hl) (rel.fresh hl) (newL rel hl (h3.rep _)) w4
  · cases w
/-! ### is -/
@[simp] def isNon : D → Bool | .non => true | .raw v => decide (v = .non) | _ => false
theorem isNon_eq {K : PySem.W.Frag} {W : Wd} {H : Hp} {d : D} {v : V} (h : Rp K W H d v) : decide (v = .non) = isNon d := by
  cases d with
  | non => simp only [Rp] at h; subst h; rfl
  | bl b => simp only [Rp] at h; subst h; rfl
  | int b => simp only [Rp] at h; subst h; rfl
  | str b => simp only [Rp] at h; subst h; rfl
  | lst b => simp only [Rp] at h; obtain ⟨a, vs, rfl, _⟩ := h; rfl
  | tup b => simp only [Rp] at h; obtain ⟨a, vs, rfl, _⟩ := h; rfl
  | scr b => simp only [Rp] at h; obtain ⟨a, vs, rfl, _⟩ := h; rfl
  | hdl b => simp only [Rp] at h; obtain ⟨a, _, rfl⟩ := h; rfl
  | raw b => simp only [Rp] at h; subst h; rfl
  | exc b => simp only [Rp] at h; obtain ⟨a, rfl, _⟩ := h; rfl
def rIsN : R2 := fun x y H Q => y = .non ∧ Q (.bl (decide (x = .non))) H
def rNotN : R2 := fun x y H Q => y = .non ∧ Q (.bl (!decide (x = .non))) H
@[simp] def dIsN : D2 := fun x y st R => match y with | .non => R (.bl (isNon x)) st | _ => False
@[simp] def dNotN : D2 := fun x y st R => match y with | .non => R (.bl (!isNon x)) st | _ => False
theorem op_isN' : OpR X (compareOp .Is) rIsN := op_isN
theorem op_notN' : OpR X (compareOp .IsNot) rNotN := op_notN
theorem od_isN : OpD G rIsN dIsN := by
  intro E W H st dx dy x y R xq Q rel rx ry w o
  unfold dIsN at w
  split at w
  · simp only [Rp] at ry
    exact ⟨ry, by rw [isNon_eq rx]; exact o.rt W H (.bl (isNon dx)) _ st Le.refl rel rfl w⟩
  · cases w
theorem od_notN : OpD G rNotN dNotN := by
  intro E W H st dx dy x y R xq Q rel rx ry w o
  unfold dNotN at w
  split at w
  · simp only [Rp] at ry
    exact ⟨ry, by rw [isNon_eq rx]; exact o.rt W H (.bl (!isNon dx)) _ st Le.refl rel rfl w⟩
  · cases w
/-! ### one-place operations -/
@[simp] def mUn (r' : D → Sto → DQ → Prop) (wa : ME) : ME := fun ρ st R xq => wa ρ st (fun x st1 => r' x st1 R) xq
def UnD (G : Gm) (r : V → Hp → VK → Prop) (r' : D → Sto → DQ → Prop) : Prop := ∀ (E : XK) (W : Wd) (H : Hp) (st : Sto) (dx : D) (x : V) (R : DQ) (xq : XQ) (Q : VK),
  Rel G W H st → Rp G.K W H dx x → r' dx st R → OutE G E W H R xq Q → r x H Q
theorem pd_un {a : Expr} {wa : ME} {op : UnaryOp} {r : V → Hp → VK → Prop} {r' : D → Sto → DQ → Prop} {pos : Pos} (ho : UnR X (unaryOp op) r) (hd : UnD G r r') (ha : PDE G E X a wa) : PDE G E X (.UnaryOp op a pos) (mUn r' wa) :=
  PE.weak (pe_un ho ha) fun σ H Q ⟨W, ρ, st, R, xq, rel, re, w, o⟩ =>
    ⟨W, ρ, st, _, xq, rel, re, w, ⟨fun W1 H1 dx x st1 l1 rel1 rx w1 => hd E W1 H1 st1 dx x R xq Q rel1 rx w1 (o.le l1), o.xq⟩⟩
@[simp] abbrev dNeg : D → Sto → DQ → Prop := fun x st R => onI x fun i => R (.int (-i)) st
theorem ud_neg : UnD G (rU fun i => .int (-i)) dNeg := by
  intro E W H st dx x R xq Q rel rx w o
  obtain ⟨i, e1, w⟩ := onI_of rx w
  exact ⟨i, e1, o.rt W H (.int (-i)) _ st Le.refl rel rfl w⟩
end
end DL

set_option Elab.async false
set_option linter.all false
set_option maxRecDepth 100000
set_option autoImplicit false
namespace DL
open PySem PySem.Spec PyProof.Rows L2

section
variable {G : Gm} {E : XK} {X : Cx}
/-! ### is, is not of truth values (the left may be None) -/
def rIsB : R2 := fun x y H Q => ∃ b : Bool, y = .bl b ∧ ((∃ a : Bool, x = .bl a ∧ Q (.bl (decide (a = b))) H) ∨ (x = .non ∧ Q (.bl false) H))
def rNotB : R2 := fun x y H Q => ∃ b : Bool, y = .bl b ∧ ((∃ a : Bool, x = .bl a ∧ Q (.bl (!decide (a = b))) H) ∨ (x = .non ∧ Q (.bl true) H))
theorem op_isB : OpR X (compareOp .Is) rIsB := by
  intro pins s σ H x y v u Q I rx ry h
  obtain ⟨b, rfl, ⟨a, rfl, q⟩ | ⟨rfl, q⟩⟩ := h
  · exact op_isBl pins s σ H (.bl a) (.bl b) v u Q I rx ry ⟨a, b, rfl, rfl, q⟩
  · cases (show v = Value.none from rx)
    cases (show u = Value.bool b from ry)
    exact wpAny_is_other rfl (fun z => by cases z) ⟨.bl false, H, I, rfl, q⟩
theorem op_notB : OpR X (compareOp .IsNot) rNotB := by
  intro pins s σ H x y v u Q I rx ry h
  obtain ⟨b, rfl, ⟨a, rfl, q⟩ | ⟨rfl, q⟩⟩ := h
  · exact op_notBl pins s σ H (.bl a) (.bl b) v u Q I rx ry ⟨a, b, rfl, rfl, q⟩
  · cases (show v = Value.none from rx)
    cases (show u = Value.bool b from ry)
    exact wpAny_isNot_other rfl (fun z => by cases z) ⟨.bl true, H, I, rfl, q⟩
@[simp] def dIsB : D2 := fun x y st R => onB y fun b => match x with | .bl a => R (.bl (decide (a = b))) st | .non => R (.bl false) st | _ => False
@[simp] def dNotB : D2 := fun x y st R => onB y fun b => match x with | .bl a => R (.bl (!decide (a = b))) st | .non => R (.bl true) st | _ => False
theorem od_isB : OpD G rIsB dIsB := by
  intro E W H st dx dy x y R xq Q rel rx ry w o
  obtain ⟨b, e, w⟩ := onB_of ry w
  split at w
  · simp only [Rp] at rx; exact ⟨b, e, .inl ⟨_, rx, o.rt W H (.bl _) _ st Le.refl rel rfl w⟩⟩
  · simp only [Rp] at rx; exact ⟨b, e, .inr ⟨rx, o.rt W H (.bl _) _ st Le.refl rel rfl w⟩⟩
  · cases w
theorem od_notB : OpD G rNotB dNotB := by
  intro E W H st dx dy x y R xq Q rel rx ry w o
  obtain ⟨b, e, w⟩ := onB_of ry w
  split at w
  · simp only [Rp] at rx; exact ⟨b, e, .inl ⟨_, rx, o.rt W H (.bl _) _ st Le.refl rel rfl w⟩⟩
  · simp only [Rp] at rx; exact ⟨b, e, .inr ⟨rx, o.rt W H (.bl _) _ st Le.refl rel rfl w⟩⟩
  · cases w

/-! ### arguments, displays -/
@[simp] def maNil : MA := fun _ st R _ => R [] st
@[simp] def maCons (w : ME) (r : MA) : MA := fun ρ st R xq => w ρ st (fun x st1 => r ρ st1 (fun xs st2 => R (x :: xs) st2) xq) xq
theorem ma_nil : PDA G E X [] maNil := PA.weak pa_nil fun σ H Q ⟨W, ρ, st, R, xq, rel, re, w, o⟩ => o.rt W H [] [] st Le.refl rel RpL.nil w
theorem ma_cons {e : Expr} {es : List Expr} {w : ME} {r : MA} (h : PDE G E X e w) (hr : PDA G E X es r) (hs : starEach (e :: es) X.env = (false, eval e X.env) :: starEach es X.env := by rfl) : PDA G E X (e :: es) (maCons w r) :=
  PA.weak (pa_cons h hr hs) fun σ H Q ⟨W, ρ, st, R, xq, rel, re, w, o⟩ =>
    ⟨W, ρ, st, _, xq, rel, re, w, ⟨fun W1 H1 d v st1 l1 rel1 rv w1 =>
      ⟨W1, ρ, st1, _, xq, rel1, re.le l1, w1, ⟨fun W2 H2 ds vs st2 l2 rel2 rvs w2 => o.rt W2 H2 (d :: ds) (v :: vs) st2 (l1.trans l2) rel2 (RpL.cons (rv.le l2) rvs) w2, (o.le l1).xq⟩⟩, o.xq⟩⟩
@[simp] def mLst (r : MA) : ME := fun ρ st R xq => r ρ st (fun xs st1 => xs.length ≤ sizeLine ∧ R (.lst xs) st1) xq
@[simp] def mTup (r : MA) : ME := fun ρ st R xq => r ρ st (fun xs st1 => xs.length ≤ sizeLine ∧ R (.tup xs) st1) xq
@[simp] def mLstH (r : MA) : ME := fun ρ st R xq => r ρ st (fun xs st1 => xs.length ≤ sizeLine ∧ R (.hdl st1.length) (st1 ++ [.lst xs])) xq
theorem pd_lst {es : List Expr} {r : MA} {pos : Pos} (h : PDA G E X es r) : PDE G E X (.List es pos) (mLst r) :=
  PE.weak (pe_lst h) fun σ H Q ⟨W, ρ, st, R, xq, rel, re, w, o⟩ =>
    ⟨W, ρ, st, _, xq, rel, re, w, ⟨fun W1 H1 ds vs st1 l1 rel1 rvs w1 => ⟨by rw [rvs.length]; exact w1.1, fun p hp =>
      o.rt W1 _ (.lst ds) _ st1 (l1.trans (Le.fresh hp)) (rel1.fresh hp) (newL rel1 hp rvs) w1.2⟩, o.xq⟩⟩
theorem pd_tup {es : List Expr} {r : MA} {j} {pos : Pos} (h : PDA G E X es r) : PDE G E X (.Tuple es j pos) (mTup r) :=
  PE.weak (pe_tup h) fun σ H Q ⟨W, ρ, st, R, xq, rel, re, w, o⟩ =>
    ⟨W, ρ, st, _, xq, rel, re, w, ⟨fun W1 H1 ds vs st1 l1 rel1 rvs w1 => ⟨by rw [rvs.length]; exact w1.1, fun p hp =>
      o.rt W1 _ (.tup ds) _ st1 (l1.trans (Le.fresh hp)) (rel1.fresh hp) (newT rel1 hp rvs) w1.2⟩, o.xq⟩⟩
theorem pd_lstH {es : List Expr} {r : MA} {pos : Pos} (h : PDA G E X es r) : PDE G E X (.List es pos) (mLstH r) :=
  PE.weak (pe_lst h) fun σ H Q ⟨W, ρ, st, R, xq, rel, re, w, o⟩ =>
    ⟨W, ρ, st, _, xq, rel, re, w, ⟨fun W1 H1 ds vs st1 l1 rel1 rvs w1 => ⟨by rw [rvs.length]; exact w1.1, fun p hp =>
      o.rt _ _ (.hdl st1.length) _ _ (l1.trans (Le.new hp)) (newHL rel1 hp rvs).1 (newHL rel1 hp rvs).2 w1.2⟩, o.xq⟩⟩
/-- {} -/
@[simp] def mDic : ME := fun _ st R _ => R (.hdl st.length) (st ++ [.dK []])
theorem pd_dic {pos : Pos} : PDE G E X (.Dict [] [] pos) mDic :=
  PE.weak pe_dnewK fun σ H Q ⟨W, ρ, st, R, xq, rel, re, w, o⟩ p hp =>
    let q := newHK (ds := []) (vs := []) rel hp rfl
    o.rt _ _ (.hdl st.length) _ _ (Le.new hp) q.1 q.2 w

/-! ### dicts -/
@[simp] def toK : D → Option Key
  | .int i => some (.inl i)
  | .str x => some (.inr x)
  | _ => none
def valD (kvs : List (Key × D)) (k : Key) : Option D := (kvs.find? fun kv => decide (kv.1 = k)).map (·.2)
def putD (kvs : List (Key × D)) (k : Key) (v : D) : List (Key × D) :=
  if (kvs.any fun kv => decide (kv.1 = k)) = true then kvs.map fun kv => if kv.1 = k then (kv.1, v) else kv else kvs ++ [(k, v)]
def dropD (kvs : List (Key × D)) (k : Key) : List (Key × D) := kvs.filter fun kv => decide (kv.1 ≠ k)
theorem toK_of {K : PySem.W.Frag} {W : Wd} {H : Hp} {d : D} {v : V} {k : Key} (h : Rp K W H d v) (e : toK d = some k) : v = kV k := by
  cases d <;> simp only [toK] at e <;> cases e <;> exact h
section
variable {K : PySem.W.Frag} {W : Wd} {H : Hp}
theorem RpK.any : ∀ {kvs : List (Key × D)} {vs : List (Key × V)} (k : Key), RpK K W H kvs vs → (kvs.any fun kv => decide (kv.1 = k)) = vs.any fun kv => decide (kv.1 = k)
  | [], _, _, h => by simp only [RpK] at h; subst h; rfl
  | (j, d) :: kvs, vs, k, h => by
    simp only [RpK] at h
    obtain ⟨v, r, rfl, h1, h2⟩ := h
    simp only [List.any_cons, RpK.any k h2]
theorem RpK.val : ∀ {kvs : List (Key × D)} {vs : List (Key × V)} (k : Key), RpK K W H kvs vs → (∃ d v, valD kvs k = some d ∧ valV vs k = some v ∧ Rp K W H d v) ∨ (valD kvs k = none ∧ valV vs k = none)
  | [], _, _, h => by simp only [RpK] at h; subst h; exact .inr ⟨rfl, rfl⟩
  | (j, d) :: kvs, vs, k, h => by
    simp only [RpK] at h
    obtain ⟨v, r, rfl, h1, h2⟩ := h
    by_cases e : j = k
    · exact .inl ⟨d, v, by simp [valD, e], by simp [valV, e], h1⟩
    · have a1 : valD ((j, d) :: kvs) k = valD kvs k := by simp [valD, e]
      have a2 : valV ((j, v) :: r) k = valV r k := by simp [valV, e]
      rw [a1, a2]
      exact RpK.val k h2
theorem RpK.append : ∀ {a b : List (Key × D)} {x y : List (Key × V)}, RpK K W H a x → RpK K W H b y → RpK K W H (a ++ b) (x ++ y)
  | [], _, _, _, h, h' => by simp only [RpK] at h; subst h; exact h'
  | (j, d) :: kvs, b, x, y, h, h' => by
    simp only [RpK] at h
    obtain ⟨v, r, rfl, h1, h2⟩ := h
    exact ⟨v, r ++ y, rfl, h1, RpK.append h2 h'⟩
theorem RpK.repl {k : Key} {d : D} {v : V} (hd : Rp K W H d v) : ∀ {a : List (Key × D)} {x : List (Key × V)}, RpK K W H a x → RpK K W H (a.map fun kv => if kv.1 = k then (kv.1, d) else kv) (x.map fun kv => if kv.1 = k then (kv.1, v) else kv)
  | [], _, h => by simp only [RpK] at h; subst h; rfl
  | (j, e) :: kvs, x, h => by
    simp only [RpK] at h
    obtain ⟨u, r, rfl, h1, h2⟩ := h
    by_cases q : j = k
    · simp only [List.map_cons, q, if_true]
      exact ⟨v, _, rfl, hd, RpK.repl hd h2⟩
    · simp only [List.map_cons, q, if_false]
      exact ⟨u, _, rfl, h1, RpK.repl hd h2⟩
theorem RpK.put {kvs : List (Key × D)} {vs : List (Key × V)} {k : Key} {d : D} {v : V} (h : RpK K W H kvs vs) (hd : Rp K W H d v) : RpK K W H (putD kvs k d) (putK vs k v) := by
  unfold putD putK
  rw [h.any k]
  split
  · exact h.repl hd
  · exact h.append ⟨v, [], rfl, hd, rfl⟩
theorem RpK.drop {k : Key} : ∀ {a : List (Key × D)} {x : List (Key × V)}, RpK K W H a x → RpK K W H (dropD a k) (dropK x k)
  | [], _, h => by simp only [RpK] at h; subst h; rfl
  | (j, e) :: kvs, x, h => by
    simp only [RpK] at h
    obtain ⟨u, r, rfl, h1, h2⟩ := h
    have ih := RpK.drop (k := k) h2
    unfold dropD dropK at ih ⊢
    by_cases q : j = k
    · have e1 : decide (j ≠ k) = false := by simp [q]
      simp only [List.filter_cons, e1]
      exact ih
    · have e1 : decide (j ≠ k) = true := by simp [q]
      simp only [List.filter_cons, e1]
      exact ⟨u, _, rfl, h1, ih⟩
theorem RpK.length : ∀ {a : List (Key × D)} {x : List (Key × V)}, RpK K W H a x → x.length = a.length
  | [], _, h => by simp only [RpK] at h; subst h; rfl
  | (j, e) :: kvs, x, h => by
    simp only [RpK] at h
    obtain ⟨u, r, rfl, h1, h2⟩ := h
    simp [RpK.length h2]
end
/-- the dict at a handle -/
def onK (st : Sto) (d : D) (k : Nat → List (Key × D) → Prop) : Prop := match d with
  | .hdl j => match st[j]? with | some (.dK kvs) => k j kvs | _ => False
  | _ => False
theorem onK_hdl {st : Sto} {j : Nat} {kvs : List (Key × D)} {k : Nat → List (Key × D) → Prop} (h : st[j]? = some (.dK kvs)) : onK st (.hdl j) k = k j kvs := by
  show (match st[j]? with | some (.dK kvs) => k j kvs | _ => False) = _
  rw [h]
theorem onK_of {W : Wd} {H : Hp} {st : Sto} {d : D} {v : V} {k : Nat → List (Key × D) → Prop} (r : Rel G W H st) (p : Rp G.K W H d v) (h : onK st d k) :
    ∃ j a kvs vs, v = .ref a ∧ W.m[j]? = some a ∧ H a = some (.dK vs) ∧ RpK G.K W H kvs vs ∧ k j kvs := by
  unfold onK at h
  split at h
  · split at h
    · rename_i j _ kvs e
      simp only [Rp] at p
      obtain ⟨a, h1, rfl⟩ := p
      obtain ⟨b, h2, vs, h3, h4⟩ := r.cell _ _ e
      rw [h1] at h2; cases h2
      exact ⟨_, a, kvs, vs, rfl, h1, h3, h4, h⟩
    · cases h
  · cases h
/-- a[b]: a list, a tuple, a text, a dict -/
def rIxK : R2 := fun x y H Q => ∃ a v, x = .ref a ∧ DGet H a y (some v) ∧ Q v H
theorem ix_dict (hu : X.A.units + 1 < cLine) : IxR X rIxK := by
  intro value slice pins s σ H x y v u Q I rx ry h hs
  obtain ⟨a, z, rfl, g, q⟩ := h
  cases (show v = Value.ref a from rx)
  exact tail_any (dict_typeIs I g) PySem.F.slot_dict_getitem.lookup (d_getItem hu I g ry fun w' s' I' r' => ⟨z, H, I', r', q⟩) hs
def rIX (K : PySem.W.Frag) : R2 := fun x y H Q => rIx K x y H Q ∨ rIxK x y H Q
theorem ix_ALL (hu : X.A.units + 1 < cLine) : IxR X (rIX X.K) := ix_seq.or (ix_dict hu)
@[simp] def dIx : D2 := fun x y st R => match dr st x, y with
  | .lst xs, .int i => ∃ d, atI xs i = some d ∧ R d st
  | .scr xs, .int i => ∃ d, atI xs i = some d ∧ R d st
  | .tup xs, .int i => ∃ d, atI xs i = some d ∧ R d st
  | .str z, .int i => z.length ≤ sizeLine ∧ ∃ c, atI z.cps.toList i = some c ∧ R (.str ⟨#[c]⟩) st
  | .hdl k, y => onK st (.hdl k) fun _ kvs => ∃ key d, toK y = some key ∧ valD kvs key = some d ∧ R d st
  | _, _ => False
theorem atI_rp {K : PySem.W.Frag} {W : Wd} {H : Hp} {xs : List D} {vs : List V} {i : Int} {d : D} (r : RpL K W H xs vs) (e : atI xs i = some d) : ∃ v, atI vs i = some v ∧ Rp K W H d v := by
  unfold atI at e ⊢
  rw [r.length]
  cases q : ixN xs.length i with
  | none => rw [q] at e; cases e
  | some j =>
    rw [q] at e
    exact r.get e
theorem dr_hdlE {st : Sto} {d : D} {k : Nat} (e : dr st d = .hdl k) : d = .hdl k := by
  unfold dr at e; split at e
  · split at e
    · cases e
    · exact e
  · exact e
theorem od_ix (hK : G.K = X.K) : OpD G (rIX X.K) dIx := by
  intro E W H st dx dy x y R xq Q rel rx ry w o
  rw [← hK]
  unfold dIx at w
  split at w
  · rename_i xs i e
    obtain ⟨p, vs, h1, h2, h3⟩ := dr_lst rel rx e
    obtain ⟨d, e2, w⟩ := w
    obtain ⟨v, e3, rv⟩ := atI_rp h3 e2
    exact .inl (.inl ⟨p, vs, i, v, h1, ry, SqL.of h2, e3, o.rt W H d v st Le.refl rel rv w⟩)
  · rename_i xs i e
    obtain rfl := dr_scr e
    obtain ⟨p, vs, h1, h2, h3⟩ := scr_sq rx
    obtain ⟨d, e2, w⟩ := w
    obtain ⟨v, e3, rv⟩ := atI_rp h3 e2
    exact .inl (.inl ⟨p, vs, i, v, h1, ry, h2, e3, o.rt W H d v st Le.refl rel rv w⟩)
  · rename_i xs i e
    obtain rfl := dr_tup e
    obtain ⟨p, vs, h1, h2, h3⟩ := tup_sq rx
    obtain ⟨d, e2, w⟩ := w
    obtain ⟨v, e3, rv⟩ := atI_rp h3 e2
    exact .inl (.inr (.inl ⟨p, vs, i, v, h1, ry, h2, e3, o.rt W H d v st Le.refl rel rv w⟩))
  · rename_i z i e
    obtain rfl := dr_str e
    obtain ⟨h0, c, e2, w⟩ := w
    exact .inl (.inr (.inr ⟨z, i, c, rx, ry, h0, e2, o.rt W H (.str _) _ st Le.refl rel rfl w⟩))
  · rename_i k y e
    obtain rfl := dr_hdlE e
    obtain ⟨j, a, kvs, vs, rfl, h1, h2, h3, key, d, e1, e2, w⟩ := onK_of rel rx w
    obtain rfl := toK_of ry e1
    rcases h3.val key with ⟨d', v, q1, q2, q3⟩ | ⟨q1, _⟩
    · rw [e2] at q1; cases q1
      refine .inr ⟨a, v, rfl, ?_, o.rt W H d v st Le.refl rel q3 w⟩
      rw [← q2]
      exact DGet.k h2
    · rw [e2] at q1; cases q1
  · cases w
theorem pd_ix {a b : Expr} {wa wb : ME} {pos : Pos} (hu : X.A.units + 1 < cLine) (ha : PDE G E X a wa) (hb : PDE G E X b wb) (hs : PlainIx b := by intro _ _; rfl) (hK : G.K = X.K := by rfl) : PDE G E X (.Subscript a b pos) (mOp dIx wa wb) :=
  PE.weak (pe_ix (ix_ALL hu) ha hb hs) fun _ _ _ h => op_lift (od_ix hK) h

/-! ### in, not in -/
def rInK (neg : Bool) : R2 := fun x y H Q => ∃ a o, y = .ref a ∧ DGet H a x o ∧ Q (.bl (if neg then !o.isSome else o.isSome)) H
theorem op_inK (hu : X.A.units + 1 < cLine) : OpR X (compareOp .In) (rInK false) := by
  intro pins s σ H x y v u Q I rx ry h
  obtain ⟨a, o, rfl, g, q⟩ := h
  cases (show u = Value.ref a from ry)
  exact d_in hu I g rx fun s' I' => ⟨.bl o.isSome, H, I', rfl, q⟩
theorem op_notInK (hu : X.A.units + 1 < cLine) : OpR X (compareOp .NotIn) (rInK true) := by
  intro pins s σ H x y v u Q I rx ry h
  obtain ⟨a, o, rfl, g, q⟩ := h
  cases (show u = Value.ref a from ry)
  exact d_notIn hu I g rx fun s' I' => ⟨.bl (!o.isSome), H, I', rfl, q⟩
def rInS (neg : Bool) : R2 := fun x y H Q => ∃ i j, x = .str i ∧ y = .str j ∧ Q (.bl (if neg then !(!(Builtin.Str.occurrences j i 0 j.length 1).isEmpty) else !(Builtin.Str.occurrences j i 0 j.length 1).isEmpty)) H
def rIN (K : PySem.W.Frag) (neg : Bool) : R2 := fun x y H Q => rIn K neg x y H Q ∨ rInK neg x y H Q ∨ rInS neg x y H Q
theorem op_IN (hu : X.A.units + 1 < cLine) : OpR X (compareOp .In) (rIN X.K false) := op_in_seq.or ((op_inK hu).or (show OpR X (compareOp .In) (rInS false) from op_in_str))
theorem op_NIN (hu : X.A.units + 1 < cLine) : OpR X (compareOp .NotIn) (rIN X.K true) := op_notIn_seq.or ((op_notInK hu).or (show OpR X (compareOp .NotIn) (rInS true) from op_notin_str))
@[simp] def flatD : D → Bool | .non => true | .bl _ => true | .int _ => true | .str _ => true | _ => false
def fv : D → V | .bl b => .bl b | .int i => .int i | .str x => .str x | _ => .non
theorem fv_of {K : PySem.W.Frag} {W : Wd} {H : Hp} {d : D} {v : V} (f : flatD d = true) (h : Rp K W H d v) : v = fv d := by
  cases d <;> first | (simp [flatD] at f; done) | exact h
theorem fv_all {K : PySem.W.Frag} {W : Wd} {H : Hp} : ∀ {ds : List D} {vs : List V}, ds.all flatD = true → RpL K W H ds vs → vs = ds.map fv ∧ vs.all flatV = true
  | [], _, _, h => by simp only [RpL] at h; subst h; exact ⟨rfl, rfl⟩
  | d :: ds, vs, f, h => by
    simp only [RpL] at h
    obtain ⟨v, r, rfl, h1, h2⟩ := h
    simp only [List.all_cons, Bool.and_eq_true] at f ⊢
    obtain ⟨e1, e2⟩ := fv_all f.2 h2
    have e3 := fv_of f.1 h1
    refine ⟨by rw [e1, e3]; rfl, ?_, e2⟩
    rw [e3]
    cases d <;> rfl
/-- == of flat data -/
def eqFD (x y : D) : Bool := eqV (fv x) (fv y)
theorem inV_map (x : D) (ds : List D) : inV (fv x) (ds.map fv) = ds.any fun y => eqFD y x := by
  unfold inV; rw [List.any_map]; rfl
@[simp] def dIN (neg : Bool) : D2 := fun x y st R => match dr st y with
  | .lst xs => flatD x = true ∧ xs.all flatD = true ∧ R (.bl (if neg then !(xs.any fun y => eqFD y x) else xs.any fun y => eqFD y x)) st
  | .scr xs => flatD x = true ∧ xs.all flatD = true ∧ R (.bl (if neg then !(xs.any fun y => eqFD y x) else xs.any fun y => eqFD y x)) st
  | .tup xs => flatD x = true ∧ xs.all flatD = true ∧ R (.bl (if neg then !(xs.any fun y => eqFD y x) else xs.any fun y => eqFD y x)) st
  | .str z => onS x fun i => R (.bl (if neg then !(!(Builtin.Str.occurrences z i 0 z.length 1).isEmpty) else !(Builtin.Str.occurrences z i 0 z.length 1).isEmpty)) st
  | .hdl k => onK st (.hdl k) fun _ kvs => ∃ key, toK x = some key ∧ R (.bl (if neg then !(valD kvs key).isSome else (valD kvs key).isSome)) st
  | _ => False
theorem od_in (hK : G.K = X.K) (neg : Bool) : OpD G (rIN X.K neg) (dIN neg) := by
  intro E W H st dx dy x y R xq Q rel rx ry w o
  rw [← hK]
  unfold dIN at w
  split at w
  · rename_i xs e
    obtain ⟨p, vs, h1, h2, h3⟩ := dr_lst rel ry e
    obtain ⟨f1, f2, w⟩ := w
    obtain ⟨e1, e2⟩ := fv_all f2 h3
    have e3 := fv_of f1 rx
    refine .inl ⟨p, vs, h1, .inl (SqL.of h2), ?_, e2, ?_⟩
    · rw [e3]; cases dx <;> rfl
    · rw [e1, e3, inV_map]; exact o.rt W H (.bl _) _ st Le.refl rel rfl w
  · rename_i xs e
    obtain rfl := dr_scr e
    obtain ⟨p, vs, h1, h2, h3⟩ := scr_sq ry
    obtain ⟨f1, f2, w⟩ := w
    obtain ⟨e1, e2⟩ := fv_all f2 h3
    have e3 := fv_of f1 rx
    refine .inl ⟨p, vs, h1, .inl h2, ?_, e2, ?_⟩
    · rw [e3]; cases dx <;> rfl
    · rw [e1, e3, inV_map]; exact o.rt W H (.bl _) _ st Le.refl rel rfl w
  · rename_i xs e
    obtain rfl := dr_tup e
    obtain ⟨p, vs, h1, h2, h3⟩ := tup_sq ry
    obtain ⟨f1, f2, w⟩ := w
    obtain ⟨e1, e2⟩ := fv_all f2 h3
    have e3 := fv_of f1 rx
    refine .inl ⟨p, vs, h1, .inr h2, ?_, e2, ?_⟩
    · rw [e3]; cases dx <;> rfl
    · rw [e1, e3, inV_map]; exact o.rt W H (.bl _) _ st Le.refl rel rfl w
  · rename_i z e
    obtain rfl := dr_str e
    obtain ⟨i, e1, w⟩ := onS_of rx w
    exact .inr (.inr ⟨i, z, e1, ry, o.rt W H (.bl _) _ st Le.refl rel rfl w⟩)
  · rename_i k e
    obtain rfl := dr_hdlE e
    obtain ⟨j, a, kvs, vs, rfl, h1, h2, h3, key, e1, w⟩ := onK_of rel ry w
    obtain rfl := toK_of rx e1
    refine .inr (.inl ⟨a, _, rfl, DGet.k h2, ?_⟩)
    rcases h3.val key with ⟨d', v, q1, q2, q3⟩ | ⟨q1, q2⟩
    · rw [q1] at w; rw [q2]; exact o.rt W H (.bl _) _ st Le.refl rel rfl w
    · rw [q1] at w; rw [q2]; exact o.rt W H (.bl _) _ st Le.refl rel rfl w
  · cases w
theorem pd_in {a b : Expr} {wa wb : ME} {pos : Pos} (hu : X.A.units + 1 < cLine) (ha : PDE G E X a wa) (hb : PDE G E X b wb) (hm : behindInMarks .In b = false := by rfl) (hK : G.K = X.K := by rfl) : PDE G E X (.Compare a [.In] [b] pos) (mOp (dIN false) wa wb) := pd_cmp (op_IN hu) (od_in hK false) ha hb hm
theorem pt_in {a b : Expr} {wa wb : ME} {pos : Pos} (hu : X.A.units + 1 < cLine) (ha : PDE G E X a wa) (hb : PDE G E X b wb) (hm : behindInMarks .In b = false := by rfl) (hK : G.K = X.K := by rfl) : PDT G E X (.Compare a [.In] [b] pos) (mTest (mOp (dIN false) wa wb)) := pt_cmp (op_IN hu) (od_in hK false) ha hb hm
theorem pd_nin {a b : Expr} {wa wb : ME} {pos : Pos} (hu : X.A.units + 1 < cLine) (ha : PDE G E X a wa) (hb : PDE G E X b wb) (hm : behindInMarks .NotIn b = false := by rfl) (hK : G.K = X.K := by rfl) : PDE G E X (.Compare a [.NotIn] [b] pos) (mOp (dIN true) wa wb) := pd_cmp (op_NIN hu) (od_in hK true) ha hb hm
theorem pt_nin {a b : Expr} {wa wb : ME} {pos : Pos} (hu : X.A.units + 1 < cLine) (ha : PDE G E X a wa) (hb : PDE G E X b wb) (hm : behindInMarks .NotIn b = false := by rfl) (hK : G.K = X.K := by rfl) : PDT G E X (.Compare a [.NotIn] [b] pos) (mTest (mOp (dIN true) wa wb)) := pt_cmp (op_NIN hu) (od_in hK true) ha hb hm

/-! ### slices -/
def cutD (xs : List D) (lo hi : Option Int) : List D := (xs.drop (HT.sIx xs.length 0 lo)).take (HT.sIx xs.length xs.length hi - HT.sIx xs.length 0 lo)
theorem cut_rp {K : PySem.W.Frag} {W : Wd} {H : Hp} {xs : List D} {vs : List V} (r : RpL K W H xs vs) (lo hi : Option Int) : RpL K W H (cutD xs lo hi) (cutV vs lo hi) := by
  unfold cutD cutV
  rw [r.length]
  exact (r.drop _).take _
abbrev MO := DEnv → Sto → (Option Int → Sto → Prop) → XQ → Prop
structure OutO (G : Gm) (E : XK) (W : Wd) (H : Hp) (R : Option Int → Sto → Prop) (xq : XQ) (Q : Option Int → Hp → Prop) : Prop where
  rt : ∀ W' H' b st', Le W H W' H' → Rel G W' H' st' → R b st' → Q b H'
  xq : ∀ W' H' C st', Le W H W' H' → Rel G W' H' st' → xq C st' → E (.ref C) none H'
def tDO (G : Gm) (E : XK) (w : MO) : TO := fun σ H Q => ∃ W ρ st R xq, Rel G W H st ∧ RpE G.K W H ρ σ ∧ w ρ st R xq ∧ OutO G E W H R xq Q
def PDO (G : Gm) (E : XK) (X : Cx) (e : Option Expr) (w : MO) : Prop := PO X e (tDO G E w)
theorem PO.weak {X : Cx} {e : Option Expr} {t t' : TO} (h : PO X e t) (hw : ∀ σ H Q, t' σ H Q → t σ H Q) : PO X e t' := ⟨fun pins s σ H Q I q => h.run pins s σ H Q I (hw _ _ _ q)⟩
@[simp] def moNone : MO := fun _ st R _ => R none st
@[simp] def moSome (w : ME) : MO := fun ρ st R xq => w ρ st (fun d st1 => onI d fun i => R (some i) st1) xq
theorem mo_none : PDO G E X none moNone := PO.weak po_none fun σ H Q ⟨W, ρ, st, R, xq, rel, re, w, o⟩ => o.rt W H none st Le.refl rel w
theorem mo_some {e : Expr} {w : ME} (h : PDE G E X e w) : PDO G E X (some e) (moSome w) := PO.weak (po_some h) fun σ H Q ⟨W, ρ, st, R, xq, rel, re, w, o⟩ =>
  ⟨W, ρ, st, _, xq, rel, re, w, ⟨fun W1 H1 d v st1 l1 rel1 rv w1 => by
    obtain ⟨i, e, w1⟩ := onI_of rv w1
    exact ⟨i, e, o.rt W1 H1 (some i) st1 l1 rel1 w1⟩, o.xq⟩⟩
def rSL (K : PySem.W.Frag) : V → Option Int → Option Int → Hp → VK → Prop := fun x lo hi H Q => rSlL K x lo hi H Q ∨ rSlT K x lo hi H Q
@[simp] def dSl (x : D) (lo hi : Option Int) (st : Sto) (R : DQ) : Prop := match dr st x with
  | .lst xs => R (.lst (cutD xs lo hi)) st
  | .scr xs => R (.lst (cutD xs lo hi)) st
  | .tup xs => ¬ (HT.sIx xs.length 0 lo = 0 ∧ HT.sIx xs.length xs.length hi = xs.length) ∧ R (.tup (cutD xs lo hi)) st
  | _ => False
@[simp] def mSl (we : ME) (wl wh : MO) : ME := fun ρ st R xq => we ρ st (fun x st1 => wl ρ st1 (fun lo st2 => wh ρ st2 (fun hi st3 => dSl x lo hi st3 R) xq) xq) xq
theorem sl_SL : SlR X (rSL X.K) := sl_list.or sl_tup
theorem pd_sl {e : Expr} {lo hi : Option Expr} {we : ME} {wl wh : MO} {pos p2 : Pos} (he : PDE G E X e we) (hl : PDO G E X lo wl) (hh : PDO G E X hi wh) (hK : G.K = X.K := by rfl) : PDE G E X (.Subscript e (.Slice lo hi none p2) pos) (mSl we wl wh) :=
  PE.weak (pe_slice sl_SL he hl hh) fun σ H Q ⟨W, ρ, st, R, xq, rel, re, w, o⟩ =>
  ⟨W, ρ, st, _, xq, rel, re, w, ⟨fun W1 H1 d v st1 l1 rel1 rv w1 =>
    ⟨W1, ρ, st1, _, xq, rel1, re.le l1, w1, ⟨fun W2 H2 lo st2 l2 rel2 w2 =>
      ⟨W2, ρ, st2, _, xq, rel2, re.le (l1.trans l2), w2, ⟨fun W3 H3 hi st3 l3 rel3 w3 => by
        have rv3 := rv.le (l2.trans l3)
        have o3 := o.le (l1.trans (l2.trans l3))
        rw [← hK]
        unfold dSl at w3
        split at w3
        · rename_i xs e
          obtain ⟨p, vs, h1, h2, h3⟩ := dr_lst rel3 rv3 e
          exact .inl ⟨p, vs, h1, SqL.of h2, fun q hq => o3.rt W3 _ (.lst _) _ st3 (Le.fresh hq) (rel3.fresh hq) (newL rel3 hq (cut_rp h3 lo hi)) w3⟩
        · rename_i xs e
          rw [dr_scr e] at rv3
          obtain ⟨p, vs, h1, h2, h3⟩ := scr_sq rv3
          exact .inl ⟨p, vs, h1, h2, fun q hq => o3.rt W3 _ (.lst _) _ st3 (Le.fresh hq) (rel3.fresh hq) (newL rel3 hq (cut_rp h3 lo hi)) w3⟩
        · rename_i xs e
          rw [dr_tup e] at rv3
          obtain ⟨p, vs, h1, h2, h3⟩ := tup_sq rv3
          exact .inr ⟨p, vs, h1, h2, by rw [h3.length]; exact w3.1, fun q hq => o3.rt W3 _ (.tup _) _ st3 (Le.fresh hq) (rel3.fresh hq) (newT rel3 hq (cut_rp h3 lo hi)) w3.2⟩
        · exact w3.elim, (o.le (l1.trans l2)).xq⟩⟩, (o.le l1).xq⟩⟩, o.xq⟩⟩

/-! ### built-in functions and types -/
abbrev D1 := List D → Sto → DQ → Prop
def CaD (G : Gm) (r : List V → Hp → VK → Prop) (r' : D1) : Prop := ∀ (E : XK) (W : Wd) (H : Hp) (st : Sto) (ds : List D) (vs : List V) (R : DQ) (xq : XQ) (Q : VK),
  Rel G W H st → RpL G.K W H ds vs → r' ds st R → OutE G E W H R xq Q → r vs H Q
@[simp] def mCa (r' : D1) (w : MA) : ME := fun ρ st R xq => w ρ st (fun ds st1 => r' ds st1 R) xq
theorem ca_lift {r : List V → Hp → VK → Prop} {r' : D1} {w : MA} (hd : CaD G r r') {σ : L2.St} {H : Hp} {Q : VK} (h : tD G E (mCa r' w) σ H Q) : tCB r (tDA G E w) σ H Q := by
  obtain ⟨W, ρ, st, R, xq, rel, re, w, o⟩ := h
  exact ⟨W, ρ, st, _, xq, rel, re, w, ⟨fun W1 H1 ds vs st1 l1 rel1 rv w1 => hd E W1 H1 st1 ds vs R xq Q rel1 rv w1 (o.le l1), o.xq⟩⟩
theorem pd_callB {x : Str} {p pos : Pos} {e : Expr} {es : List Expr} {id : String} {r : List V → Hp → VK → Prop} {r' : D1} {w : MA} (hc : CallR X (.builtin id) r) (hd : CaD G r r') (hm : X.mg x = none) (hv : bootBuiltins x = some (.builtin id)) (ha : PDA G E X (e :: es) w) (hg : Gl X x := by rfl) (hn : x ≠ "__name__" := by decide) (hdb : (x == ("__debug__" : Str)) = false := by decide)
    (he : starEach (e :: es) X.env = (false, eval e X.env) :: starEach es X.env := by rfl) (hpl : (backTo pos (starEach es X.env)).any (·.1) = false := by rfl) : PDE G E X (.Call (.Name x p) (e :: es) [] pos) (mCa r' w) :=
  PE.weak (pe_callB hc hg hm hv ha hn hdb he hpl) fun _ _ _ h => ca_lift hd h
theorem pd_callTy {x : Str} {p pos : Pos} {e : Expr} {es : List Expr} {T : String} {r : List V → Hp → VK → Prop} {r' : D1} {w : MA} (hc : CallR X (.type T) r) (hd : CaD G r r') (hm : X.mg x = none) (hv : bootBuiltins x = some (.type T)) (ha : PDA G E X (e :: es) w) (hg : Gl X x := by rfl) (hn : x ≠ "__name__" := by decide) (hdb : (x == ("__debug__" : Str)) = false := by decide)
    (he : starEach (e :: es) X.env = (false, eval e X.env) :: starEach es X.env := by rfl) (hpl : (backTo pos (starEach es X.env)).any (·.1) = false := by rfl) : PDE G E X (.Call (.Name x p) (e :: es) [] pos) (mCa r' w) :=
  PE.weak (pe_callTy hc hg hm hv ha hn hdb he hpl) fun _ _ _ h => ca_lift hd h
theorem rpl1 {K : PySem.W.Frag} {W : Wd} {H : Hp} {d : D} {vs : List V} (h : RpL K W H [d] vs) : ∃ v, vs = [v] ∧ Rp K W H d v := by
  simp only [RpL] at h
  obtain ⟨v, r, rfl, h1, rfl⟩ := h
  exact ⟨v, rfl, h1⟩
theorem rpl2 {K : PySem.W.Frag} {W : Wd} {H : Hp} {d e : D} {vs : List V} (h : RpL K W H [d, e] vs) : ∃ v u, vs = [v, u] ∧ Rp K W H d v ∧ Rp K W H e u := by
  simp only [RpL] at h
  obtain ⟨v, r, rfl, h1, u, r', rfl, h2, rfl⟩ := h
  exact ⟨v, u, rfl, h1, h2⟩
/-- len -/
def rLenA (K : PySem.W.Frag) : List V → Hp → VK → Prop := fun xs H Q => ∃ x n, xs = [x] ∧ LenV K x H n ∧ Q (.int n) H
def rLenK : List V → Hp → VK → Prop := fun xs H Q => ∃ d kvs, xs = [.ref d] ∧ H d = some (.dK kvs) ∧ Q (.int kvs.length) H
theorem call_lenK : CallR X (.builtin "len") rLenK := by
  intro pins s σ H xs us Q I r h
  obtain ⟨d, kvs, rfl, e, q⟩ := h
  obtain ⟨u, rfl, rx⟩ := vals1 r
  cases (show u = Value.ref d from rx)
  exact d_len I (.inl e) fun t s' I' => ⟨.int kvs.length, H, I', ⟨t, rfl⟩, q⟩
def rLEN (K : PySem.W.Frag) : List V → Hp → VK → Prop := fun xs H Q => rLenA K xs H Q ∨ rLenK xs H Q
theorem call_LEN : CallR X (.builtin "len") (rLEN X.K) := (show CallR X (.builtin "len") (rLenA X.K) from call_len).or call_lenK
@[simp] def dLen : D1 := fun ds st R => match ds with
  | [d] => match dr st d with
    | .lst xs => R (.int xs.length) st
    | .scr xs => R (.int xs.length) st
    | .tup xs => R (.int xs.length) st
    | .str z => z.length ≤ sizeLine ∧ R (.int z.length) st
    | .hdl k => onK st (.hdl k) fun _ kvs => R (.int kvs.length) st
    | _ => False
  | _ => False
theorem cd_len (hK : G.K = X.K) : CaD G (rLEN X.K) dLen := by
  intro E W H st ds vs R xq Q rel rs w o
  rw [← hK]
  unfold dLen at w
  split at w
  · rename_i d
    obtain ⟨v, rfl, rv⟩ := rpl1 rs
    split at w
    · rename_i xs e
      obtain ⟨p, vs, h1, h2, h3⟩ := dr_lst rel rv e
      subst h1
      exact .inl ⟨.ref p, vs.length, rfl, .inl ⟨vs, SqL.of h2, rfl⟩, by rw [h3.length]; exact o.rt W H (.int _) _ st Le.refl rel rfl w⟩
    · rename_i xs e
      rw [dr_scr e] at rv
      obtain ⟨p, vs, h1, h2, h3⟩ := scr_sq rv
      subst h1
      exact .inl ⟨.ref p, vs.length, rfl, .inl ⟨vs, h2, rfl⟩, by rw [h3.length]; exact o.rt W H (.int _) _ st Le.refl rel rfl w⟩
    · rename_i xs e
      rw [dr_tup e] at rv
      obtain ⟨p, vs, h1, h2, h3⟩ := tup_sq rv
      subst h1
      exact .inl ⟨.ref p, vs.length, rfl, .inr ⟨vs, h2, rfl⟩, by rw [h3.length]; exact o.rt W H (.int _) _ st Le.refl rel rfl w⟩
    · rename_i z e
      rw [dr_str e] at rv
      simp only [Rp] at rv
      subst rv
      exact .inl ⟨.str z, z.length, rfl, ⟨w.1, rfl⟩, o.rt W H (.int _) _ st Le.refl rel rfl w.2⟩
    · rename_i k e
      rw [dr_hdlE e] at rv
      obtain ⟨j, a, kvs, vs, rfl, h1, h2, h3, w⟩ := onK_of rel rv w
      exact .inr ⟨a, vs, rfl, h2, by rw [h3.length]; exact o.rt W H (.int _) _ st Le.refl rel rfl w⟩
    · cases w
  · cases w
/-- list(..), of a list or a tuple: as data, as a handle -/
@[simp] def dList : D1 := fun ds st R => match ds with | [d] => onQ st d fun xs => R (.lst xs) st | _ => False
@[simp] def dListH : D1 := fun ds st R => match ds with | [d] => onQ st d fun xs => R (.hdl st.length) (st ++ [.lst xs]) | _ => False
def rList (K : PySem.W.Frag) : List V → Hp → VK → Prop := fun xs H Q => ∃ p ys, xs = [.ref p] ∧ (SqL K H p ys ∨ SqT K H p ys) ∧ ∀ l, H l = none → Q (.ref l) (upd H l (.lst ys))
theorem call_LIST : CallR X (.type "list") (rList X.K) := call_list_of
theorem cd_list (hK : G.K = X.K) : CaD G (rList X.K) dList := by
  intro E W H st ds vs R xq Q rel rs w o
  rw [← hK]
  unfold dList at w
  split at w
  · obtain ⟨v, rfl, rv⟩ := rpl1 rs
    obtain ⟨a, vs, xs, rfl, h1, h2, w⟩ := onQ_of rel rv w
    exact ⟨a, vs, rfl, h1, fun l hl => o.rt W _ (.lst xs) _ st (Le.fresh hl) (rel.fresh hl) (newL rel hl h2) w⟩
  · cases w
theorem cd_listH (hK : G.K = X.K) : CaD G (rList X.K) dListH := by
  intro E W H st ds vs R xq Q rel rs w o
  rw [← hK]
  unfold dListH at w
  split at w
  · obtain ⟨v, rfl, rv⟩ := rpl1 rs
    obtain ⟨a, vs, xs, rfl, h1, h2, w⟩ := onQ_of rel rv w
    exact ⟨a, vs, rfl, h1, fun l hl => o.rt _ _ (.hdl st.length) _ _ (Le.new hl) (newHL rel hl h2).1 (newHL rel hl h2).2 w⟩
  · cases w
/-- tuple(..) -/
@[simp] def dTuple : D1 := fun ds st R => match ds with | [d] => onQ st d fun xs => R (.tup xs) st | _ => False
def rTuple (K : PySem.W.Frag) : List V → Hp → VK → Prop := fun xs H Q => ∃ p ys, xs = [.ref p] ∧ ((SqL K H p ys ∧ ∀ l, H l = none → Q (.ref l) (upd H l (.tup ys))) ∨ (SqT K H p ys ∧ Q (.ref p) H))
theorem call_TUPLE : CallR X (.type "tuple") (rTuple X.K) := call_tuple_of
theorem cd_tuple (hK : G.K = X.K) : CaD G (rTuple X.K) dTuple := by
  intro E W H st ds vs R xq Q rel rs w o
  rw [← hK]
  unfold dTuple at w
  split at w
  · obtain ⟨v, rfl, rv⟩ := rpl1 rs
    unfold onQ at w
    split at w
    · rename_i xs e
      obtain ⟨p, vs, h1, h2, h3⟩ := dr_lst rel rv e
      subst h1
      exact ⟨p, vs, rfl, .inl ⟨SqL.of h2, fun l hl => o.rt W _ (.tup xs) _ st (Le.fresh hl) (rel.fresh hl) (newT rel hl h3) w⟩⟩
    · rename_i xs e
      rw [dr_scr e] at rv
      obtain ⟨p, vs, h1, h2, h3⟩ := scr_sq rv
      subst h1
      exact ⟨p, vs, rfl, .inl ⟨h2, fun l hl => o.rt W _ (.tup xs) _ st (Le.fresh hl) (rel.fresh hl) (newT rel hl h3) w⟩⟩
    · rename_i xs e
      have e' := dr_tup e
      subst e'
      obtain ⟨p, vs, h1, h2, h3⟩ := tup_sq rv
      subst h1
      exact ⟨p, vs, rfl, .inr ⟨h2, o.rt W H (.tup xs) _ st Le.refl rel rv w⟩⟩
    · cases w
  · cases w
/-- int(..) of a number, of a truth value -/
@[simp] def dInt : D1 := fun ds st R => match ds with | [.int i] => R (.int i) st | [.bl k] => R (.int (if k then 1 else 0)) st | _ => False
def rInt : List V → Hp → VK → Prop := fun xs H Q => (∃ i, xs = [.int i] ∧ Q (.int i) H) ∨ ∃ k, xs = [.bl k] ∧ Q (.int (if k then 1 else 0)) H
theorem call_INT : CallR X (.type "int") rInt := call_int1
theorem cd_int : CaD G rInt dInt := by
  intro E W H st ds vs R xq Q rel rs w o
  unfold dInt at w
  split at w
  · obtain ⟨v, rfl, rv⟩ := rpl1 rs
    simp only [Rp] at rv; subst rv
    exact .inl ⟨_, rfl, o.rt W H (.int _) _ st Le.refl rel rfl w⟩
  · obtain ⟨v, rfl, rv⟩ := rpl1 rs
    simp only [Rp] at rv; subst rv
    exact .inr ⟨_, rfl, o.rt W H (.int _) _ st Le.refl rel rfl w⟩
  · cases w
/-- abs, max, min of numbers -/
@[simp] def dAbs : D1 := fun ds st R => match ds with | [.int i] => R (.int (if i < 0 then -i else i)) st | _ => False
theorem cd_abs : CaD G (fun xs H Q => ∃ i, xs = [.int i] ∧ Q (.int (if i < 0 then -i else i)) H) dAbs := by
  intro E W H st ds vs R xq Q rel rs w o
  unfold dAbs at w
  split at w
  · obtain ⟨v, rfl, rv⟩ := rpl1 rs
    simp only [Rp] at rv; subst rv
    exact ⟨_, rfl, o.rt W H (.int _) _ st Le.refl rel rfl w⟩
  · cases w
@[simp] def dII1 (g : Int → Int → D) : D1 := fun ds st R => match ds with | [.int i, .int j] => R (g i j) st | _ => False
theorem cd_ii {g : Int → Int → V} {g' : Int → Int → D} (h : ∀ W H i j, Rp G.K W H (g' i j) (g i j)) : CaD G (fun xs H Q => ∃ i j, xs = [.int i, .int j] ∧ Q (g i j) H) (dII1 g') := by
  intro E W H st ds vs R xq Q rel rs w o
  unfold dII1 at w
  split at w
  · obtain ⟨v, u, rfl, rv, ru⟩ := rpl2 rs
    simp only [Rp] at rv ru; subst rv; subst ru
    exact ⟨_, _, rfl, o.rt W H _ _ st Le.refl rel (h W H _ _) w⟩
  · cases w
@[simp] abbrev dMax2 : D1 := dII1 fun i j => .int (if j > i then j else i)
@[simp] abbrev dMin2 : D1 := dII1 fun i j => .int (if j < i then j else i)
theorem cd_max2 : CaD G (fun xs H Q => ∃ i j, xs = [.int i, .int j] ∧ Q (.int (if j > i then j else i)) H) dMax2 := cd_ii fun _ _ _ _ => rfl
theorem cd_min2 : CaD G (fun xs H Q => ∃ i j, xs = [.int i, .int j] ∧ Q (.int (if j < i then j else i)) H) dMin2 := cd_ii fun _ _ _ _ => rfl
/-- all, any of a list of truth values; sum of numbers -/
@[simp] def allB (xs : List D) : Option (List Bool) := match xs with
  | [] => some []
  | .bl b :: r => (allB r).map (b :: ·)
  | _ => none
theorem allB_rp {K : PySem.W.Frag} {W : Wd} {H : Hp} : ∀ {ds : List D} {vs : List V} {bs : List Bool}, RpL K W H ds vs → allB ds = some bs → vs = bs.map V.bl
  | [], _, bs, h, e => by simp only [RpL] at h; subst h; simp [allB] at e; subst e; rfl
  | d :: ds, vs, bs, h, e => by
    simp only [RpL] at h
    obtain ⟨v, r, rfl, h1, h2⟩ := h
    cases d with
    | bl b =>
      simp only [allB, Option.map_eq_some_iff] at e
      obtain ⟨cs, e1, rfl⟩ := e
      simp only [Rp] at h1
      rw [h1, allB_rp h2 e1]; rfl
    | _ => simp [allB] at e
@[simp] def dAll : D1 := fun ds st R => match ds with | [d] => onL st d fun xs => ∃ bs, allB xs = some bs ∧ R (.bl (bs.all id)) st | _ => False
@[simp] def dAny : D1 := fun ds st R => match ds with | [d] => onL st d fun xs => ∃ bs, allB xs = some bs ∧ R (.bl (bs.any id)) st | _ => False
theorem cd_all (hK : G.K = X.K) : CaD G (rAll X.K) dAll := by
  intro E W H st ds vs R xq Q rel rs w o
  rw [← hK]
  unfold dAll at w
  split at w
  · obtain ⟨v, rfl, rv⟩ := rpl1 rs
    obtain ⟨a, vs, xs, rfl, h1, h2, bs, e, w⟩ := onL_of rel rv w
    exact ⟨a, bs, rfl, by rw [← allB_rp h2 e]; exact h1, o.rt W H (.bl _) _ st Le.refl rel rfl w⟩
  · cases w
theorem cd_any (hK : G.K = X.K) : CaD G (rAny X.K) dAny := by
  intro E W H st ds vs R xq Q rel rs w o
  rw [← hK]
  unfold dAny at w
  split at w
  · obtain ⟨v, rfl, rv⟩ := rpl1 rs
    obtain ⟨a, vs, xs, rfl, h1, h2, bs, e, w⟩ := onL_of rel rv w
    exact ⟨a, bs, rfl, by rw [← allB_rp h2 e]; exact h1, o.rt W H (.bl _) _ st Le.refl rel rfl w⟩
  · cases w
@[simp] def allI (xs : List D) : Option (List Int) := match xs with
  | [] => some []
  | .int b :: r => (allI r).map (b :: ·)
  | _ => none
theorem allI_ints : ∀ ns : List Int, allI (ns.map D.int) = some ns
  | [] => rfl
  | n :: ns => by simp [allI, allI_ints ns]
theorem allB_bls : ∀ ns : List Bool, allB (ns.map D.bl) = some ns
  | [] => rfl
  | n :: ns => by simp [allB, allB_bls ns]
theorem allI_rp {K : PySem.W.Frag} {W : Wd} {H : Hp} : ∀ {ds : List D} {vs : List V} {bs : List Int}, RpL K W H ds vs → allI ds = some bs → vs = bs.map V.int
  | [], _, bs, h, e => by simp only [RpL] at h; subst h; simp [allI] at e; subst e; rfl
  | d :: ds, vs, bs, h, e => by
    simp only [RpL] at h
    obtain ⟨v, r, rfl, h1, h2⟩ := h
    cases d with
    | int b =>
      simp only [allI, Option.map_eq_some_iff] at e
      obtain ⟨cs, e1, rfl⟩ := e
      simp only [Rp] at h1
      rw [h1, allI_rp h2 e1]; rfl
    | _ => simp [allI] at e
@[simp] def dSum : D1 := fun ds st R => match ds with | [d] => onL st d fun xs => ∃ bs, allI xs = some bs ∧ R (.int bs.sum) st | _ => False
theorem cd_sum (hK : G.K = X.K) : CaD G (rSum X.K) dSum := by
  intro E W H st ds vs R xq Q rel rs w o
  rw [← hK]
  unfold dSum at w
  split at w
  · obtain ⟨v, rfl, rv⟩ := rpl1 rs
    obtain ⟨a, vs, xs, rfl, h1, h2, bs, e, w⟩ := onL_of rel rv w
    exact ⟨a, bs, rfl, by rw [← allI_rp h2 e]; exact h1, o.rt W H (.int _) _ st Le.refl rel rfl w⟩
  · cases w
/-- dict(d): a copy -/
@[simp] def dDict : D1 := fun ds st R => match ds with | [d] => onK st d fun _ kvs => R (.hdl st.length) (st ++ [.dK kvs]) | _ => False
def rDict : List V → Hp → VK → Prop := fun xs H Q => ∃ d kvs, xs = [.ref d] ∧ H d = some (.dK kvs) ∧ ∀ p, H p = none → Q (.ref p) (upd H p (.dK kvs))
theorem call_DICT : CallR X (.type "dict") rDict := by
  intro pins s σ H xs us Q I r h
  obtain ⟨d, kvs, rfl, e, q⟩ := h
  obtain ⟨u, rfl, rx⟩ := vals1 r
  cases (show u = Value.ref d from rx)
  exact d_copyOf I (.inl e) fun p s' hp I' => ⟨.ref p, _, I', rfl, q p hp⟩
theorem cd_dict : CaD G rDict dDict := by
  intro E W H st ds vs R xq Q rel rs w o
  unfold dDict at w
  split at w
  · obtain ⟨v, rfl, rv⟩ := rpl1 rs
    obtain ⟨j, a, kvs, vs, rfl, h1, h2, h3, w⟩ := onK_of rel rv w
    exact ⟨a, vs, rfl, h2, fun p hp => o.rt _ _ (.hdl st.length) _ _ (Le.new hp) (newHK rel hp h3).1 (newHK rel hp h3).2 w⟩
  · cases w
end
end DL

set_option Elab.async false
set_option linter.all false
set_option maxRecDepth 100000
set_option autoImplicit false
namespace DL
open PySem PySem.Spec PyProof.Rows L2

section
variable {G : Gm} {E : XK} {X : Cx}
/-! ### methods of lists -/
/-- the list at a handle -/
def onH (st : Sto) (d : D) (k : Nat → List D → Prop) : Prop := match d with
  | .hdl j => match st[j]? with | some (.lst xs) => k j xs | _ => False
  | _ => False
theorem onH_hdl {st : Sto} {j : Nat} {xs : List D} {k : Nat → List D → Prop} (h : st[j]? = some (.lst xs)) : onH st (.hdl j) k = k j xs := by
  show (match st[j]? with | some (.lst xs) => k j xs | _ => False) = _
  rw [h]
theorem onH_of {W : Wd} {H : Hp} {st : Sto} {d : D} {v : V} {k : Nat → List D → Prop} (r : Rel G W H st) (p : Rp G.K W H d v) (h : onH st d k) :
    ∃ j a xs vs, v = .ref a ∧ W.m[j]? = some a ∧ H a = some (.lst vs) ∧ RpL G.K W H xs vs ∧ k j xs := by
  unfold onH at h
  split at h
  · split at h
    · rename_i j _ xs e
      simp only [Rp] at p
      obtain ⟨a, h1, rfl⟩ := p
      obtain ⟨b, h2, vs, h3, h4⟩ := r.cell _ _ e
      rw [h1] at h2; cases h2
      exact ⟨_, a, xs, vs, rfl, h1, h3, h4, h⟩
    · cases h
  · cases h
theorem wrL {W : Wd} {H : Hp} {st : Sto} {j : Nat} {a : Addr} {xs : List D} {vs : List V} (r : Rel G W H st) (e : W.m[j]? = some a) (h : RpL G.K W H xs vs) : Rel G W (upd H a (.lst vs)) (st.set j (.lst xs)) :=
  r.write e ⟨vs, upd_same, h.le (Le.write (r.mem e))⟩
theorem wrK {W : Wd} {H : Hp} {st : Sto} {j : Nat} {a : Addr} {xs : List (Key × D)} {vs : List (Key × V)} (r : Rel G W H st) (e : W.m[j]? = some a) (h : RpK G.K W H xs vs) : Rel G W (upd H a (.dK vs)) (st.set j (.dK xs)) :=
  r.write e ⟨vs, upd_same, h.le (Le.write (r.mem e))⟩
abbrev DM := D → List D → Sto → DQ → Prop
def MeD (G : Gm) (r : V → List V → Hp → VK → Prop) (r' : DM) : Prop := ∀ (E : XK) (W : Wd) (H : Hp) (st : Sto) (dx : D) (ds : List D) (x : V) (vs : List V) (R : DQ) (xq : XQ) (Q : VK),
  Rel G W H st → Rp G.K W H dx x → RpL G.K W H ds vs → r' dx ds st R → OutE G E W H R xq Q → r x vs H Q
/-- what a method is asked of: a list -/
@[simp] def isLD (st : Sto) (d : D) : Prop := onL st d fun _ => True
theorem isLD_ty {W : Wd} {H : Hp} {st : Sto} {d : D} {v : V} (r : Rel G W H st) (p : Rp G.K W H d v) (h : isLD st d) : tyV G.K "list" v H := by
  obtain ⟨a, vs, xs, rfl, h1, _⟩ := onL_of r p h
  exact .inl ⟨rfl, _, h1⟩
@[simp] def mMe (r' : DM) (we : ME) (wa : MA) : ME := fun ρ st R xq => we ρ st (fun x st1 => isLD st1 x ∧ wa ρ st1 (fun xs st2 => r' x xs st2 R) xq) xq
@[simp] def mMe0 (r' : DM) (we : ME) : ME := fun ρ st R xq => we ρ st (fun x st1 => isLD st1 x ∧ r' x [] st1 R) xq
theorem pd_lm {o e : Expr} {es : List Expr} {we : ME} {wa : MA} {name : Str} {apos cpos : Pos} {id : String} {r : V → List V → Hp → VK → Prop} {r' : DM} (slot : PySem.Slot "list" name id) (hty : typeOf (.builtin id) = pure (.type "method_descriptor")) (hm : MtR X id r) (hd : MeD G r r') (ho : PDE G E X o we) (ha : PDA G E X (e :: es) wa)
    (hbase : attributeBase o name X.env (eval o X.env) = eval o X.env := by rfl)
    (hfew : ((backTo cpos (starEach (e :: es) X.env)).all (fun x => !x.1) && (backToKw cpos (keywordEach [] X.env)).all (fun x => x.1.isSome)
      && decide ((e :: es).length + ([] : List Keyword).length + (if ([] : List Keyword).isEmpty then 0 else 1) < 30)) = true := by rfl)
    (hline : (apos.endLine == cpos.line) = true := by rfl) (hs : starEach (e :: es) X.env = (false, eval e X.env) :: starEach es X.env := by rfl) (hplain : (backTo cpos (starEach es X.env)).any (·.1) = false := by rfl) (hK : G.K = X.K := by rfl) :
    PDE G E X (.Call (.Attribute o name apos) (e :: es) [] cpos) (mMe r' we wa) :=
  PE.weak (pe_bm PySem.F.plainAttrs_list slot hty hm ho ha hbase hfew hline hs hplain) fun σ H Q ⟨W, ρ, st, R, xq, rel, re, w, o⟩ =>
    ⟨W, ρ, st, _, xq, rel, re, w, ⟨fun W1 H1 dx x st1 l1 rel1 rx w1 =>
      ⟨by rw [← hK]; exact isLD_ty rel1 rx w1.1, W1, ρ, st1, _, xq, rel1, re.le l1, w1.2, ⟨fun W2 H2 ds vs st2 l2 rel2 rvs w2 =>
        hd E W2 H2 st2 dx ds x vs R xq Q rel2 (rx.le l2) rvs w2 (o.le (l1.trans l2)), (o.le l1).xq⟩⟩, o.xq⟩⟩
theorem pd_lm0 {o : Expr} {we : ME} {name : Str} {apos cpos : Pos} {id : String} {r : V → List V → Hp → VK → Prop} {r' : DM} (slot : PySem.Slot "list" name id) (hty : typeOf (.builtin id) = pure (.type "method_descriptor")) (hm : MtR X id r) (hd : MeD G r r') (ho : PDE G E X o we)
    (hbase : attributeBase o name X.env (eval o X.env) = eval o X.env := by rfl) (hline : (apos.endLine == cpos.line) = true := by rfl) (hK : G.K = X.K := by rfl) : PDE G E X (.Call (.Attribute o name apos) [] [] cpos) (mMe0 r' we) :=
  PE.weak (pe_bm0 PySem.F.plainAttrs_list slot hty hm ho hbase hline) fun σ H Q ⟨W, ρ, st, R, xq, rel, re, w, o⟩ =>
    ⟨W, ρ, st, _, xq, rel, re, w, ⟨fun W1 H1 dx x st1 l1 rel1 rx w1 =>
      ⟨by rw [← hK]; exact isLD_ty rel1 rx w1.1, hd E W1 H1 st1 dx [] x [] R xq Q rel1 rx RpL.nil w1.2 (o.le l1)⟩, o.xq⟩⟩
@[simp] def dApp : DM := fun x ds st R => match ds with | [y] => onH st x fun j xs => xs.length < sizeLine ∧ R .non (st.set j (.lst (xs ++ [y]))) | _ => False
theorem md_app : MeD G rAppend dApp := by
  intro E W H st dx ds x vs R xq Q rel rx rs w o
  unfold dApp at w
  split at w
  · obtain ⟨v, rfl, rv⟩ := rpl1 rs
    obtain ⟨j, a, xs, us, rfl, h1, h2, h3, h4, w⟩ := onH_of rel rx w
    exact ⟨a, us, v, rfl, rfl, h2, by rw [h3.length]; exact h4, o.rt W _ .non _ _ (Le.write (rel.mem h1)) (wrL rel h1 (h3.append (.one rv))) rfl w⟩
  · cases w
@[simp] def dExt : DM := fun x ds st R => match ds with | [y] => onH st x fun j xs => (match dr st y with | .lst ys => xs.length + ys.length ≤ sizeLine ∧ R .non (st.set j (.lst (xs ++ ys))) | _ => False) | _ => False
theorem md_ext : MeD G rExtend dExt := by
  intro E W H st dx ds x vs R xq Q rel rx rs w o
  unfold dExt at w
  split at w
  · obtain ⟨v, rfl, rv⟩ := rpl1 rs
    obtain ⟨j, a, xs, us, rfl, h1, h2, h3, w⟩ := onH_of rel rx w
    split at w
    · rename_i ys e
      obtain ⟨b, zs, rfl, h5, h6⟩ := dr_lst rel rv e
      exact ⟨a, b, us, zs, rfl, rfl, h2, h5, by rw [h3.length, h6.length]; exact w.1, o.rt W _ .non _ _ (Le.write (rel.mem h1)) (wrL rel h1 (h3.append h6)) rfl w.2⟩
    · cases w
  · cases w
@[simp] def dPop0 : DM := fun x ds st R => match ds with | [] => onH st x fun j xs => ∃ d, xs[xs.length - 1]? = some d ∧ R d (st.set j (.lst xs.dropLast)) | _ => False
theorem md_pop0 : MeD G rPop dPop0 := by
  intro E W H st dx ds x vs R xq Q rel rx rs w o
  unfold dPop0 at w
  split at w
  · simp only [RpL] at rs
    obtain ⟨j, a, xs, us, rfl, h1, h2, h3, d, h4, w⟩ := onH_of rel rx w
    obtain ⟨v, h5, h6⟩ := h3.get h4
    refine ⟨a, us, v, rfl, rs, h2, by rw [h3.length]; exact h5, ?_⟩
    have l := Le.write (H := H) (o := HO.lst us.dropLast) (rel.mem h1)
    refine o.rt W _ d v _ l (wrL rel h1 ?_) (h6.le l) w
    rw [List.dropLast_eq_take, List.dropLast_eq_take, h3.length]
    exact h3.take _
  · cases w
@[simp] def dPopAt : DM := fun x ds st R => match ds with | [.int i] => onH st x fun j xs => ∃ k d, seqIndex? i xs.length = some k ∧ xs[k]? = some d ∧ -(2 ^ 63) ≤ i ∧ i < 2 ^ 63 ∧ R d (st.set j (.lst (xs.eraseIdx k))) | _ => False
theorem md_popAt : MeD G rPopAt dPopAt := by
  intro E W H st dx ds x vs R xq Q rel rx rs w o
  unfold dPopAt at w
  split at w
  · obtain ⟨v, rfl, rv⟩ := rpl1 rs
    simp only [Rp] at rv; subst rv
    obtain ⟨j, a, xs, us, rfl, h1, h2, h3, k, d, h4, h5, h6, h7, w⟩ := onH_of rel rx w
    obtain ⟨v, h8, h9⟩ := h3.get h5
    refine ⟨a, us, _, k, v, rfl, rfl, h2, h6, h7, by rw [h3.length]; exact h4, h8, ?_⟩
    have l := Le.write (H := H) (o := HO.lst (us.eraseIdx k)) (rel.mem h1)
    exact o.rt W _ d v _ l (wrL rel h1 (h3.eraseIdx k)) (h9.le l) w
  · cases w
def rInsert : V → List V → Hp → VK → Prop := fun x vs H Q => ∃ (l : Addr) (xs : List V) (i : Int) (y : V), x = .ref l ∧ vs = [.int i, y] ∧ H l = some (.lst xs) ∧ xs.length < sizeLine ∧ 0 ≤ i ∧ i < 2 ^ 63 ∧
    Q .non (upd H l (.lst (xs.take i.toNat ++ [y] ++ xs.drop i.toNat)))
theorem mt_INSERT : MtR X "list.insert" rInsert := mt_insert
@[simp] def dIns : DM := fun x ds st R => match ds with | [.int i, y] => onH st x fun j xs => xs.length < sizeLine ∧ 0 ≤ i ∧ i < 2 ^ 63 ∧ R .non (st.set j (.lst (xs.take i.toNat ++ [y] ++ xs.drop i.toNat))) | _ => False
theorem md_ins : MeD G rInsert dIns := by
  intro E W H st dx ds x vs R xq Q rel rx rs w o
  unfold dIns at w
  split at w
  · obtain ⟨v, u, rfl, rv, ru⟩ := rpl2 rs
    simp only [Rp] at rv; subst rv
    obtain ⟨j, a, xs, us, rfl, h1, h2, h3, h4, h5, h6, w⟩ := onH_of rel rx w
    exact ⟨a, us, _, u, rfl, rfl, h2, by rw [h3.length]; exact h4, h5, h6, o.rt W _ .non _ _ (Le.write (rel.mem h1)) (wrL rel h1 (((h3.take _).append (.one ru)).append (h3.drop _))) rfl w⟩
  · cases w
@[simp] def dClr : DM := fun x ds st R => match ds with | [] => onH st x fun j xs => R .non (st.set j (.lst [])) | _ => False
theorem md_clr : MeD G rClear dClr := by
  intro E W H st dx ds x vs R xq Q rel rx rs w o
  unfold dClr at w
  split at w
  · simp only [RpL] at rs
    obtain ⟨j, a, xs, us, rfl, h1, h2, h3, w⟩ := onH_of rel rx w
    exact ⟨a, us, rfl, rs, h2, o.rt W _ .non _ _ (Le.write (rel.mem h1)) (wrL rel h1 RpL.nil) rfl w⟩
  · cases w

/-! ### methods of dicts -/
@[simp] def isKD (st : Sto) (d : D) : Prop := onK st d fun _ _ => True
theorem isKD_is {W : Wd} {H : Hp} {st : Sto} {d : D} {v : V} (r : Rel G W H st) (p : Rp G.K W H d v) (h : isKD st d) : ∃ a, v = .ref a ∧ IsD H a := by
  obtain ⟨j, a, kvs, vs, rfl, _, h1, _⟩ := onK_of r p h
  exact ⟨a, rfl, .inl ⟨_, .inl h1⟩⟩
@[simp] def mGet1 (we wk : ME) : ME := fun ρ st R xq => we ρ st (fun x st1 => isKD st1 x ∧ wk ρ st1 (fun k st2 => onK st2 x fun _ kvs => ∃ key, toK k = some key ∧ R ((valD kvs key).getD .non) st2) xq) xq
@[simp] def mGet2 (we wk wd : ME) : ME := fun ρ st R xq => we ρ st (fun x st1 => isKD st1 x ∧ wk ρ st1 (fun k st2 => wd ρ st2 (fun z st3 => onK st3 x fun _ kvs => ∃ key, toK k = some key ∧ R ((valD kvs key).getD z) st3) xq) xq) xq
@[simp] def mSetd (we wk wd : ME) : ME := fun ρ st R xq => we ρ st (fun x st1 => isKD st1 x ∧ wk ρ st1 (fun k st2 => wd ρ st2 (fun z st3 => onK st3 x fun j kvs => kvs.length < sizeLine ∧ ∃ key, toK k = some key ∧
  (match valD kvs key with | some d => R d st3 | none => R z (st3.set j (.dK (putD kvs key z))))) xq) xq) xq
@[simp] def mDPop1 (we wk : ME) : ME := fun ρ st R xq => we ρ st (fun x st1 => isKD st1 x ∧ wk ρ st1 (fun k st2 => onK st2 x fun j kvs => ∃ key d, toK k = some key ∧ valD kvs key = some d ∧ R d (st2.set j (.dK (dropD kvs key)))) xq) xq
theorem pd_get1 {o e : Expr} {we wk : ME} {apos cpos : Pos} (hu : X.A.units + 1 < cLine) (ho : PDE G E X o we) (he : PDE G E X e wk) (m : M1 X o "get" apos e cpos := by exact ⟨rfl, rfl, rfl, rfl⟩) : PDE G E X (.Call (.Attribute o "get" apos) [e] [] cpos) (mGet1 we wk) :=
  PE.weak (pe_dget1 hu ho he m) fun σ H Q ⟨W, ρ, st, R, xq, rel, re, w, o⟩ =>
    ⟨W, ρ, st, _, xq, rel, re, w, ⟨fun W1 H1 dx x st1 l1 rel1 rx w1 => by
      obtain ⟨a, rfl, isd⟩ := isKD_is rel1 rx w1.1
      refine ⟨a, rfl, isd, W1, ρ, st1, _, xq, rel1, re.le l1, w1.2, ⟨fun W2 H2 dk k st2 l2 rel2 rk w2 => ?_, (o.le l1).xq⟩⟩
      obtain ⟨j, b, kvs, vs, e0, h1, h2, h3, key, e1, w2⟩ := onK_of rel2 (rx.le l2) w2
      cases e0
      obtain rfl := toK_of rk e1
      refine ⟨valV vs key, DGet.k h2, ?_⟩
      rcases h3.val key with ⟨d', v, q1, q2, q3⟩ | ⟨q1, q2⟩
      · rw [q1] at w2; rw [q2]; exact o.rt W2 H2 d' v st2 (l1.trans l2) rel2 q3 w2
      · rw [q1] at w2; rw [q2]; exact o.rt W2 H2 .non .non st2 (l1.trans l2) rel2 rfl w2, o.xq⟩⟩
theorem pd_get2 {o e f : Expr} {we wk wd : ME} {apos cpos : Pos} (hu : X.A.units + 1 < cLine) (ho : PDE G E X o we) (he : PDE G E X e wk) (hf : PDE G E X f wd) (m : M2 X o "get" apos e f cpos := by exact ⟨rfl, rfl, rfl, rfl⟩) : PDE G E X (.Call (.Attribute o "get" apos) [e, f] [] cpos) (mGet2 we wk wd) :=
  PE.weak (pe_dget2 hu ho he hf m) fun σ H Q ⟨W, ρ, st, R, xq, rel, re, w, o⟩ =>
    ⟨W, ρ, st, _, xq, rel, re, w, ⟨fun W1 H1 dx x st1 l1 rel1 rx w1 => by
      obtain ⟨a, rfl, isd⟩ := isKD_is rel1 rx w1.1
      refine ⟨a, rfl, isd, W1, ρ, st1, _, xq, rel1, re.le l1, w1.2, ⟨fun W2 H2 dk k st2 l2 rel2 rk w2 => ?_, (o.le l1).xq⟩⟩
      refine ⟨W2, ρ, st2, _, xq, rel2, re.le (l1.trans l2), w2, ⟨fun W3 H3 dz z st3 l3 rel3 rz w3 => ?_, (o.le (l1.trans l2)).xq⟩⟩
      obtain ⟨j, b, kvs, vs, e0, h1, h2, h3, key, e1, w3⟩ := onK_of rel3 (rx.le (l2.trans l3)) w3
      cases e0
      obtain rfl := toK_of rk e1
      refine ⟨valV vs key, DGet.k h2, ?_⟩
      rcases h3.val key with ⟨d', v, q1, q2, q3⟩ | ⟨q1, q2⟩
      · rw [q1] at w3; rw [q2]; exact o.rt W3 H3 d' v st3 (l1.trans (l2.trans l3)) rel3 q3 w3
      · rw [q1] at w3; rw [q2]; exact o.rt W3 H3 dz z st3 (l1.trans (l2.trans l3)) rel3 rz w3, o.xq⟩⟩
theorem pd_dpop1 {o e : Expr} {we wk : ME} {apos cpos : Pos} (ho : PDE G E X o we) (he : PDE G E X e wk) (m : M1 X o "pop" apos e cpos := by exact ⟨rfl, rfl, rfl, rfl⟩) : PDE G E X (.Call (.Attribute o "pop" apos) [e] [] cpos) (mDPop1 we wk) :=
  PE.weak (pe_dpop1 ho he m) fun σ H Q ⟨W, ρ, st, R, xq, rel, re, w, o⟩ =>
    ⟨W, ρ, st, _, xq, rel, re, w, ⟨fun W1 H1 dx x st1 l1 rel1 rx w1 => by
      obtain ⟨a, rfl, isd⟩ := isKD_is rel1 rx w1.1
      refine ⟨a, rfl, isd, W1, ρ, st1, _, xq, rel1, re.le l1, w1.2, ⟨fun W2 H2 dk k st2 l2 rel2 rk w2 => ?_, (o.le l1).xq⟩⟩
      obtain ⟨j, b, kvs, vs, e0, h1, h2, h3, key, d, e1, e2, w2⟩ := onK_of rel2 (rx.le l2) w2
      cases e0
      obtain rfl := toK_of rk e1
      rcases h3.val key with ⟨d', v, q1, q2, q3⟩ | ⟨q1, q2⟩
      · rw [q1] at e2; cases e2
        have l := Le.write (H := H2) (o := HO.dK (dropK vs key)) (rel2.mem h1)
        exact ⟨vs, key, v, h2, rfl, q2, o.rt W2 _ d v _ (l1.trans (l2.trans l)) (wrK rel2 h1 h3.drop) (q3.le l) w2⟩
      · rw [q1] at e2; exact (nomatch e2), o.xq⟩⟩
theorem pd_setd {o e f : Expr} {we wk wd : ME} {apos cpos : Pos} (ho : PDE G E X o we) (he : PDE G E X e wk) (hf : PDE G E X f wd) (m : M2 X o "setdefault" apos e f cpos := by exact ⟨rfl, rfl, rfl, rfl⟩) : PDE G E X (.Call (.Attribute o "setdefault" apos) [e, f] [] cpos) (mSetd we wk wd) :=
  PE.weak (pe_dsetd ho he hf m) fun σ H Q ⟨W, ρ, st, R, xq, rel, re, w, o⟩ =>
    ⟨W, ρ, st, _, xq, rel, re, w, ⟨fun W1 H1 dx x st1 l1 rel1 rx w1 => by
      obtain ⟨a, rfl, isd⟩ := isKD_is rel1 rx w1.1
      refine ⟨a, rfl, isd, W1, ρ, st1, _, xq, rel1, re.le l1, w1.2, ⟨fun W2 H2 dk k st2 l2 rel2 rk w2 => ?_, (o.le l1).xq⟩⟩
      refine ⟨W2, ρ, st2, _, xq, rel2, re.le (l1.trans l2), w2, ⟨fun W3 H3 dz z st3 l3 rel3 rz w3 => ?_, (o.le (l1.trans l2)).xq⟩⟩
      obtain ⟨j, b, kvs, vs, e0, h1, h2, h3, hl, key, e1, w3⟩ := onK_of rel3 (rx.le (l2.trans l3)) w3
      cases e0
      obtain rfl := toK_of (rk.le l3) e1
      have l := l1.trans (l2.trans l3)
      refine ⟨vs, key, h2, rfl, by rw [h3.length]; exact hl, fun v hv => ?_, fun hn => ?_⟩
      · rcases h3.val key with ⟨d', v', q1, q2, q3⟩ | ⟨q1, q2⟩
        · rw [q1] at w3; rw [q2] at hv; cases hv; exact o.rt W3 H3 d' v st3 l rel3 q3 w3
        · rw [q2] at hv; cases hv
      · rcases h3.val key with ⟨d', v', q1, q2, q3⟩ | ⟨q1, q2⟩
        · rw [q2] at hn; cases hn
        · rw [q1] at w3
          have l4 := Le.write (H := H3) (o := HO.dK (putK vs key z)) (rel3.mem h1)
          exact o.rt W3 _ dz z _ (l.trans l4) (wrK rel3 h1 (h3.put rz)) (rz.le l4) w3, o.xq⟩⟩
end
end DL

set_option Elab.async false
set_option linter.all false
set_option maxRecDepth 100000
set_option autoImplicit false
namespace DL
open PySem PySem.Spec PyProof.Rows L2

/-! ## instances -/
@[simp] def fldN (fs : List (Nat × D)) (n : Nat) : Option D := match fs with
  | [] => none
  | (m, d) :: r => if m = n then some d else fldN r n
@[simp] def putN (n : Nat) (d : D) : List (Nat × D) → List (Nat × D)
  | [] => [(n, d)]
  | (m, e) :: r => if m = n then (m, d) :: r else (m, e) :: putN n d r
section
variable {K : PySem.W.Frag} {W : Wd} {H : Hp} {N : List Str}
theorem nodup_ix' {N : List Str} (hN : N.Nodup) {i j : Nat} {x : Str} (a : N[i]? = some x) (b : N[j]? = some x) : i = j := L2.nodup_ix hN a b
theorem RpF.look (hN : N.Nodup) {n : Nat} {x : Str} (hx : N[n]? = some x) : ∀ {fs : List (Nat × D)} {vs : List (Str × V)} {d : D}, RpF K W H N fs vs → fldN fs n = some d → ∃ v, vs.lookup x = some v ∧ Rp K W H d v
  | [], _, _, _, e => by simp [fldN] at e
  | (m, d0) :: fs, vs, d, h, e => by
    simp only [RpF] at h
    obtain ⟨y, v, r, rfl, h1, h2, h3⟩ := h
    unfold fldN at e
    by_cases q : m = n
    · subst q
      rw [if_pos rfl] at e; cases e
      rw [hx] at h1; cases h1
      exact ⟨v, by simp [List.lookup], h2⟩
    · rw [if_neg q] at e
      obtain ⟨u, h4, h5⟩ := RpF.look hN hx h3 e
      have ne : (x == y) = false := beq_eq_false_iff_ne.mpr fun z => q (L2.nodup_ix hN h1 (z ▸ hx))
      exact ⟨u, by simp only [List.lookup, ne]; exact h4, h5⟩
theorem RpF.no {x : Str} (hx : x ∉ N) : ∀ {fs : List (Nat × D)} {vs : List (Str × V)}, RpF K W H N fs vs → vs.lookup x = none
  | [], _, h => by simp only [RpF] at h; subst h; rfl
  | (m, d0) :: fs, vs, h => by
    simp only [RpF] at h
    obtain ⟨y, v, r, rfl, h1, h2, h3⟩ := h
    have ne : (x == y) = false := beq_eq_false_iff_ne.mpr fun z => hx (z ▸ List.mem_of_getElem? h1)
    simp only [List.lookup, ne]
    exact RpF.no hx h3
theorem RpF.put (hN : N.Nodup) {n : Nat} {x : Str} (hx : N[n]? = some x) {d : D} {v : V} (hd : Rp K W H d v) : ∀ {fs : List (Nat × D)} {vs : List (Str × V)}, RpF K W H N fs vs → RpF K W H N (putN n d fs) (putF x v vs)
  | [], _, h => by
    simp only [RpF] at h; subst h
    exact ⟨x, v, [], rfl, hx, hd, rfl⟩
  | (m, d0) :: fs, vs, h => by
    simp only [RpF] at h
    obtain ⟨y, u, r, rfl, h1, h2, h3⟩ := h
    unfold putN putF
    by_cases q : m = n
    · subst q
      rw [hx] at h1; cases h1
      rw [if_pos rfl, if_pos rfl]
      exact ⟨_, v, r, rfl, hx, hd, h3⟩
    · have ne : ¬ y = x := fun z => q (L2.nodup_ix hN h1 (by rw [z]; exact hx))
      rw [if_neg q, if_neg ne]
      exact ⟨y, u, _, rfl, h1, h2, RpF.put hN hx hd h3⟩
theorem RpF.length : ∀ {fs : List (Nat × D)} {vs : List (Str × V)}, RpF K W H N fs vs → vs.length = fs.length
  | [], _, h => by simp only [RpF] at h; subst h; rfl
  | (m, d0) :: fs, vs, h => by
    simp only [RpF] at h
    obtain ⟨y, v, r, rfl, h1, h2, h3⟩ := h
    simp [RpF.length h3]
end
/-- the instance of the class at C -/
def onO (st : Sto) (d : D) (C : Addr) (k : Nat → List (Nat × D) → Prop) : Prop := match d with
  | .hdl j => match st[j]? with | some (.ins C' fs) => C' = C ∧ k j fs | _ => False
  | _ => False
theorem onO_hdl {st : Sto} {j : Nat} {C : Addr} {fs : List (Nat × D)} {k : Nat → List (Nat × D) → Prop} (h : st[j]? = some (.ins C fs)) : onO st (.hdl j) C k = k j fs := by
  show (match st[j]? with | some (.ins C' fs) => C' = C ∧ k j fs | _ => False) = _
  rw [h]; simp
theorem onO_of {G : Gm} {W : Wd} {H : Hp} {st : Sto} {d : D} {v : V} {C : Addr} {k : Nat → List (Nat × D) → Prop} (r : Rel G W H st) (p : Rp G.K W H d v) (h : onO st d C k) :
    ∃ j a dx fs vs, v = .ref a ∧ W.m[j]? = some a ∧ H a = some (.ins C dx vs) ∧ RpF G.K W H (G.Γ C) fs vs ∧ k j fs := by
  unfold onO at h
  split at h
  · split at h
    · rename_i j _ C' fs e
      obtain ⟨rfl, h⟩ := h
      simp only [Rp] at p
      obtain ⟨a, h1, rfl⟩ := p
      obtain ⟨b, h2, dx, vs, h3, h4⟩ := r.cell _ _ e
      rw [h1] at h2; cases h2
      exact ⟨_, a, dx, fs, vs, rfl, h1, h3, h4, h⟩
    · cases h
  · cases h
/-- what is known of a class of the text -/
structure ClsD (G : Gm) (C : Addr) (N : List Str) : Prop where
  cl : Cls G.K C
  Γ : G.Γ C = N
  nd : N.Nodup
  no : ∀ f ∈ N, NoAttr G.K C f
section
variable {G : Gm} {E : XK} {X : Cx}
@[simp] def mFld (C : Addr) (n : Nat) (we : ME) : ME := fun ρ st R xq => we ρ st (fun x st1 => onO st1 x C fun _ fs => ∃ d, fldN fs n = some d ∧ R d st1) xq
theorem pd_fld {C : Addr} {N : List Str} {e : Expr} {we : ME} {f : Str} {pos : Pos} (T : ClsD G C N) (n : Nat) (he : PDE G E X e we) (hf : N[n]? = some f := by rfl) (hb : attributeBase e f X.env (eval e X.env) = eval e X.env := by rfl) (hK : G.K = X.K := by rfl) : PDE G E X (.Attribute e f pos) (mFld C n we) :=
  PE.weak (pe_fld he hb) fun σ H Q ⟨W, ρ, st, R, xq, rel, re, w, o⟩ =>
    ⟨W, ρ, st, _, xq, rel, re, w, ⟨fun W1 H1 dx x st1 l1 rel1 rx w1 => by
      obtain ⟨j, a, dd, fs, vs, rfl, h1, h2, h3, d, e1, w1⟩ := onO_of rel1 rx w1
      rw [T.Γ] at h3
      obtain ⟨v, h4, h5⟩ := h3.look T.nd hf e1
      rw [← hK]
      exact ⟨a, C, dd, vs, v, rfl, h2, T.cl, T.no f (List.mem_of_getElem? hf), h4, o.rt W1 H1 d v st1 l1 rel1 h5 w1⟩, o.xq⟩⟩
@[simp] def sSetFld (C : Addr) (n : Nat) (we wv : ME) : MS := fun e ρ st => wv ρ st (fun y st1 => we ρ st1 (fun x st2 => onO st2 x C fun j fs => fs.length < 1000 ∧ e.nx ρ (st2.set j (.ins C (putN n y fs)))) e.xq) e.xq
theorem wrO {W : Wd} {H : Hp} {st : Sto} {j : Nat} {a C dx : Addr} {fs : List (Nat × D)} {vs : List (Str × V)} (r : Rel G W H st) (e : W.m[j]? = some a) (h : RpF G.K W H (G.Γ C) fs vs) : Rel G W (upd H a (.ins C dx vs)) (st.set j (.ins C fs)) :=
  r.write e ⟨dx, vs, upd_same, h.le (Le.write (r.mem e))⟩
theorem sd_fld {C : Addr} {N : List Str} {o v : Expr} {we wv : ME} {f : Str} {pos pos' : Pos} (T : ClsD G C N) (n : Nat) (ho : PDE G E X o we) (hv : PDE G E X v wv) (hf : N[n]? = some f := by rfl) (hs : swapsWith v (some (.Attribute o f pos')) pos.line X.env = pure false := by rfl) (hK : G.K = X.K := by rfl) : PDS G E X (.Assign [.Attribute o f pos'] v pos) (sSetFld C n we wv) :=
  PS.weak (ps_fld ho hv hs) fun Dn σ H ⟨W, ρ, st, e, rel, re, w, o⟩ =>
    ⟨W, ρ, st, _, e.xq, rel, re, w, ⟨fun W1 H1 dy y st1 l1 rel1 ry w1 =>
      ⟨W1, ρ, st1, _, e.xq, rel1, re.le l1, w1, ⟨fun W2 H2 dx x st2 l2 rel2 rx w2 => by
        obtain ⟨j, a, dd, fs, vs, rfl, h1, h2, h3, hl, w2⟩ := onO_of rel2 rx w2
        have h3' := h3
        rw [T.Γ] at h3'
        rw [← hK]
        refine ⟨a, C, dd, vs, rfl, h2, T.cl, T.no f (List.mem_of_getElem? hf), by rw [h3.length]; exact hl, ?_⟩
        have l3 := Le.write (H := H2) (o := HO.ins C dd (putF f y vs)) (rel2.mem h1)
        refine o.nx W2 _ ρ σ _ (l1.trans (l2.trans l3)) (wrO rel2 h1 ?_) (re.le (l1.trans (l2.trans l3))) w2
        rw [T.Γ]
        exact h3'.put T.nd hf (ry.le l2), (o.le l1).xq⟩⟩, o.xq⟩⟩
/-- o.f += e, numbers -/
@[simp] def sAugFld (C : Addr) (n : Nat) (g : Int → Int → Int) (we wv : ME) : MS := fun e ρ st => we ρ st (fun x st1 => onO st1 x C fun _ fs => ∃ d, fldN fs n = some d ∧ wv ρ st1 (fun y st2 => onI d fun i => onI y fun j => onO st2 x C fun k fs' => fs'.length < 1000 ∧ e.nx ρ (st2.set k (.ins C (putN n (.int (g i j)) fs')))) e.xq) e.xq
def rII (g : Int → Int → Int) : V → V → Hp → VK → Prop := fun x y H Q => ∃ i j, x = .int i ∧ y = .int j ∧ Q (.int (g i j)) H
theorem sd_augFld {C : Addr} {N : List Str} {o v : Expr} {we wv : ME} {f : Str} {op : Operator} {g : Int → Int → Int} {pos tpos : Pos} (T : ClsD G C N) (n : Nat) (hop : InOp X op (rII g)) (ho : PDE G E X o we) (hv : PDE G E X v wv) (hf : N[n]? = some f := by rfl) (hK : G.K = X.K := by rfl) : PDS G E X (.AugAssign (.Attribute o f tpos) op v pos) (sAugFld C n g we wv) :=
  PS.weak (ps_fldaug ho hv hop) fun Dn σ H ⟨W, ρ, st, e, rel, re, w, o⟩ =>
    ⟨W, ρ, st, _, e.xq, rel, re, w, ⟨fun W1 H1 dx x st1 l1 rel1 rx w1 => by
      obtain ⟨j, a, dd, fs, vs, rfl, h1, h2, h3, d, e1, w1⟩ := onO_of rel1 rx w1
      rw [T.Γ] at h3
      obtain ⟨v, h4, h5⟩ := h3.look T.nd hf e1
      rw [← hK]
      refine ⟨a, C, dd, vs, v, rfl, h2, T.cl, T.no f (List.mem_of_getElem? hf), h4, W1, ρ, st1, _, e.xq, rel1, re.le l1, w1, ⟨fun W2 H2 dy y st2 l2 rel2 ry w2 => ?_, (o.le l1).xq⟩⟩
      obtain ⟨i, rfl, w2⟩ := onI_of (h5.le l2) w2
      obtain ⟨k, rfl, w2⟩ := onI_of ry w2
      obtain ⟨j', a', dd', fs', vs', e0, h6, h7, h8, hl, w2⟩ := onO_of rel2 (rx.le l2) w2
      cases e0
      refine ⟨i, k, rfl, rfl, dd', vs', h7, by rw [h8.length]; exact hl, ?_⟩
      have l3 := Le.write (H := H2) (o := HO.ins C dd' (putF f (.int (g i k)) vs')) (rel2.mem h6)
      have h8' := h8
      rw [T.Γ] at h8'
      refine o.nx W2 _ ρ σ _ (l1.trans (l2.trans l3)) (wrO rel2 h6 ?_) (re.le (l1.trans (l2.trans l3))) w2
      rw [T.Γ]
      exact h8'.put T.nd hf (d := D.int (g i k)) (v := V.int (g i k)) (by simp only [Rp]), o.xq⟩⟩

/-! ## calls of the text's own defs -/
abbrev DSp := List D → Sto → DQ → XQ → Prop
def spD (G : Gm) (dsp : DSp) : Sp := fun vs H Q E => ∃ W ds st R xq, Rel G W H st ∧ RpL G.K W H ds vs ∧ dsp ds st R xq ∧ OutE G E W H R xq Q
def FnD (P : Program) (w : World) (G : Gm) (mg : Str → Option Value) (base : Heap) (CX : CXT) (k : Nat) (f : Addr) (fd : FuncData) (ps : List Str) (dsp : DSp) : Prop := FnOk P w G.K mg base CX k f fd ps (spD G dsp)
@[simp] def mCall (dsp : DSp) (w : MA) : ME := fun ρ st R xq => w ρ st (fun ds st1 => dsp ds st1 R xq) xq
theorem passA {X : Cx} {E : XK} : Passes CX0 X E := fun _ _ _ _ _ _ _ h => h.elim
theorem pd_call {CX : CXT} {k : Nat} {f : Addr} {fd : FuncData} {ps : List Str} {dsp : DSp} {x : Str} {p pos : Pos} {e : Expr} {es : List Expr} {w : MA} (F : FnD X.prog X.w G X.mg X.base CX k f fd ps dsp) (hm : X.mg x = some (.ref f)) (hk : PySem.W.keepIn G.K (.ref f) = true) (hb : Binds G.K fd ps []) (hx : Passes CX X E) (hr : Room k X.A)
    (ha : PDA G E X (e :: es) w) (hg : Gl X x := by rfl) (hdb : (x == ("__debug__" : Str)) = false := by decide) (he : starEach (e :: es) X.env = (false, eval e X.env) :: starEach es X.env := by rfl) (hpl : (backTo pos (starEach es X.env)).any (·.1) = false := by rfl) (hK : G.K = X.K := by rfl) :
    PDE G E X (.Call (.Name x p) (e :: es) [] pos) (mCall dsp w) := by
  unfold FnD at F
  rw [hK] at F hk hb
  exact PE.weak (pe_call F hr hg hm hk hb .nil hx ha hdb he hpl) fun σ H Q ⟨W, ρ, st, R, xq, rel, re, w, o⟩ =>
    ⟨W, ρ, st, _, xq, rel, re, w, ⟨fun W1 H1 ds vs st1 l1 rel1 rv w1 => ⟨W1, ds, st1, R, xq, rel1, by rw [List.append_nil]; exact rv, w1, o.le l1⟩, o.xq⟩⟩
theorem pd_call0 {CX : CXT} {k : Nat} {f : Addr} {fd : FuncData} {ps : List Str} {dsp : DSp} {x : Str} {p pos : Pos} (F : FnD X.prog X.w G X.mg X.base CX k f fd ps dsp) (hm : X.mg x = some (.ref f)) (hk : PySem.W.keepIn G.K (.ref f) = true) (hb : Binds G.K fd ps []) (hx : Passes CX X E) (hr : Room k X.A)
    (hg : Gl X x := by rfl) (hdb : (x == ("__debug__" : Str)) = false := by decide) (hK : G.K = X.K := by rfl) :
    PDE G E X (.Call (.Name x p) [] [] pos) (mCall dsp maNil) := by
  unfold FnD at F
  rw [hK] at F hk hb
  exact PE.weak (pe_call0 F hr hg hm hk hb .nil hx hdb) fun σ H Q ⟨W, ρ, st, R, xq, rel, re, w, o⟩ => ⟨W, [], st, R, xq, rel, RpL.nil, w, o⟩
@[simp] def mMeth (C : Addr) (dsp : DSp) (we : ME) (wa : MA) : ME := fun ρ st R xq => we ρ st (fun x st1 => (onO st1 x C fun _ _ => True) ∧ wa ρ st1 (fun ds st2 => dsp (x :: ds) st2 R xq) xq) xq
theorem pd_meth {CX : CXT} {k : Nat} {f C : Addr} {N : List Str} {fd : FuncData} {ps : List Str} {dsp : DSp} {m : Str} {o e : Expr} {es : List Expr} {we : ME} {wa : MA} {pos apos : Pos} {pl : Sem Bool} (T : ClsD G C N) (hn : m ∉ N) (hm : Meth G.K C m f) (F : FnD X.prog X.w G X.mg X.base CX k f fd ps dsp) (hb : Binds G.K fd ps []) (hx : Passes CX X E) (hr : Room k X.A)
    (ho : PDE G E X o we) (ha : PDA G E X (e :: es) wa)
    (hst : starEach (e :: es) X.env = (false, eval e X.env) :: starEach es X.env := by rfl) (hpl : (backTo pos (starEach es X.env)).any (·.1) = false := by rfl)
    (ht : eval (.Call (.Attribute o m apos) (e :: es) [] pos) X.env = (do
      let ov ← eval o X.env
      standAt apos.atName
      let (f, first) ← holding [ov] (getMethod ov m pl)
      callWith pos f first (backTo pos (starEach (e :: es) X.env)) (backToKw pos (keywordEach [] X.env))) := by rfl) (hK : G.K = X.K := by rfl) :
    PDE G E X (.Call (.Attribute o m apos) (e :: es) [] pos) (mMeth C dsp we wa) := by
  unfold FnD at F
  have hc := T.cl
  rw [hK] at F hm hb hc
  exact PE.weak (pe_meth (pl := pl) ho hc hm F hr hb .nil hx ha hst hpl ht) fun σ H Q ⟨W, ρ, st, R, xq, rel, re, w, o⟩ =>
    ⟨W, ρ, st, _, xq, rel, re, w, ⟨fun W1 H1 dx x st1 l1 rel1 rx w1 => by
      obtain ⟨j, a, dd, fs, vs, rfl, h1, h2, h3, _⟩ := onO_of rel1 rx w1.1
      rw [T.Γ] at h3
      exact ⟨a, dd, vs, rfl, h2, h3.no hn, W1, ρ, st1, _, xq, rel1, re.le l1, w1.2, ⟨fun W2 H2 ds us st2 l2 rel2 rus w2 =>
        ⟨W2, dx :: ds, st2, R, xq, rel2, by rw [List.append_nil]; exact RpL.cons (rx.le l2) rus, w2, o.le (l1.trans l2)⟩, (o.le l1).xq⟩⟩, o.xq⟩⟩
@[simp] def mMeth0 (C : Addr) (dsp : DSp) (we : ME) : ME := fun ρ st R xq => we ρ st (fun x st1 => (onO st1 x C fun _ _ => True) ∧ dsp [x] st1 R xq) xq
theorem pd_meth0 {CX : CXT} {k : Nat} {f C : Addr} {N : List Str} {fd : FuncData} {ps : List Str} {dsp : DSp} {m : Str} {o : Expr} {we : ME} {pos apos : Pos} {pl : Sem Bool} (T : ClsD G C N) (hn : m ∉ N) (hm : Meth G.K C m f) (F : FnD X.prog X.w G X.mg X.base CX k f fd ps dsp) (hb : Binds G.K fd ps []) (hx : Passes CX X E) (hr : Room k X.A)
    (ho : PDE G E X o we)
    (ht : eval (.Call (.Attribute o m apos) [] [] pos) X.env = (do
      let ov ← eval o X.env
      standAt apos.atName
      let (f, first) ← holding [ov] (getMethod ov m pl)
      callWith pos f first (backTo pos (starEach [] X.env)) (backToKw pos (keywordEach [] X.env))) := by rfl) (hK : G.K = X.K := by rfl) :
    PDE G E X (.Call (.Attribute o m apos) [] [] pos) (mMeth0 C dsp we) := by
  unfold FnD at F
  have hc := T.cl
  rw [hK] at F hm hb hc
  exact PE.weak (pe_meth0 (pl := pl) ho hc hm F hr hb .nil hx ht) fun σ H Q ⟨W, ρ, st, R, xq, rel, re, w, o⟩ =>
    ⟨W, ρ, st, _, xq, rel, re, w, ⟨fun W1 H1 dx x st1 l1 rel1 rx w1 => by
      obtain ⟨j, a, dd, fs, vs, rfl, h1, h2, h3, _⟩ := onO_of rel1 rx w1.1
      rw [T.Γ] at h3
      exact ⟨a, dd, vs, rfl, h2, h3.no hn, W1, [dx], st1, R, xq, rel1, RpL.one rx, w1.2, o.le l1⟩, o.xq⟩⟩
/-- C(..) -/
@[simp] def mMake (C : Addr) (dsp : DSp) (w : MA) : ME := fun ρ st R xq => w ρ st (fun ds st1 => dsp (.hdl st1.length :: ds) (st1 ++ [.ins C []]) (fun d st2 => d = .non ∧ R (.hdl st1.length) st2) xq) xq
theorem make_new {W : Wd} {H : Hp} {st : Sto} {x dx C : Addr} (r : Rel G W H st) (h1 : H x = none) (h2 : H dx = none) (h3 : dx ≠ x) :
    Le W H ⟨W.m ++ [x], W.ex⟩ (upd (upd H dx (.own x)) x (.ins C dx [])) ∧ Rel G ⟨W.m ++ [x], W.ex⟩ (upd (upd H dx (.own x)) x (.ins C dx [])) (st ++ [.ins C []]) ∧ Rp G.K ⟨W.m ++ [x], W.ex⟩ (upd (upd H dx (.own x)) x (.ins C dx [])) (.hdl st.length) (.ref x) := by
  have r2 := r.fresh (o := HO.own x) h2
  have hx : (upd H dx (.own x)) x = none := by rw [upd_ne (Ne.symm h3)]; exact h1
  refine ⟨(Le.fresh h2).trans (Le.new hx), r2.new hx ⟨dx, [], upd_same, rfl⟩, ?_⟩
  simp only [Rp]
  refine ⟨x, ?_, rfl⟩
  rw [← r.len]; simp
theorem pd_make {CX : CXT} {k : Nat} {f C : Addr} {fd : FuncData} {ps : List Str} {dsp : DSp} {x : Str} {p pos : Pos} {e : Expr} {es : List Expr} {w : MA} (M : Mk G.K C f) (F : FnD X.prog X.w G X.mg X.base CX k f fd ps dsp) (hm : X.mg x = some (.ref C)) (hb : Binds G.K fd ps []) (hx : Passes CX X E) (hr : Room (k + 1) X.A)
    (ha : PDA G E X (e :: es) w) (hg : Gl X x := by rfl) (hdb : (x == ("__debug__" : Str)) = false := by decide) (he : starEach (e :: es) X.env = (false, eval e X.env) :: starEach es X.env := by rfl) (hpl : (backTo pos (starEach es X.env)).any (·.1) = false := by rfl) (hK : G.K = X.K := by rfl) :
    PDE G E X (.Call (.Name x p) (e :: es) [] pos) (mMake C dsp w) := by
  unfold FnD at F
  rw [hK] at F hb M
  exact PE.weak (pe_make M F hr hg hm hb .nil hx ha hdb he hpl) fun σ H Q ⟨W, ρ, st, R, xq, rel, re, w, o⟩ =>
    ⟨W, ρ, st, _, xq, rel, re, w, ⟨fun W1 H1 ds vs st1 l1 rel1 rv w1 y dy n1 n2 n3 => by
      obtain ⟨l2, rel2, rh⟩ := make_new (C := C) rel1 n1 n2 n3
      refine ⟨_, _, _, _, xq, rel2, by rw [List.append_nil]; exact RpL.cons rh (rv.le l2), w1, ⟨fun W3 H3 d v st3 l3 rel3 rv3 w3 => ?_, (o.le (l1.trans l2)).xq⟩⟩
      obtain ⟨rfl, w3⟩ := w3
      exact ⟨rv3, o.rt W3 H3 (.hdl st1.length) (.ref y) st3 (l1.trans (l2.trans l3)) rel3 (rh.le l3) w3⟩, o.xq⟩⟩
theorem pd_make0 {CX : CXT} {k : Nat} {f C : Addr} {fd : FuncData} {ps : List Str} {dsp : DSp} {x : Str} {p pos : Pos} (M : Mk G.K C f) (F : FnD X.prog X.w G X.mg X.base CX k f fd ps dsp) (hm : X.mg x = some (.ref C)) (hb : Binds G.K fd ps []) (hx : Passes CX X E) (hr : Room (k + 1) X.A)
    (hg : Gl X x := by rfl) (hdb : (x == ("__debug__" : Str)) = false := by decide) (hK : G.K = X.K := by rfl) :
    PDE G E X (.Call (.Name x p) [] [] pos) (mMake C dsp maNil) := by
  unfold FnD at F
  rw [hK] at F hb M
  exact PE.weak (pe_make0 M F hr hg hm hb .nil hx hdb) fun σ H Q ⟨W, ρ, st, R, xq, rel, re, w, o⟩ => fun y dy n1 n2 n3 => by
      obtain ⟨l2, rel2, rh⟩ := make_new (C := C) rel n1 n2 n3
      refine ⟨_, _, _, _, xq, rel2, RpL.one rh, w, ⟨fun W3 H3 d v st3 l3 rel3 rv3 w3 => ?_, (o.le l2).xq⟩⟩
      obtain ⟨rfl, w3⟩ := w3
      exact ⟨rv3, o.rt W3 H3 (.hdl st.length) (.ref y) st3 (l2.trans l3) rel3 (rh.le l3) w3⟩
end
end DL

set_option Elab.async false
set_option linter.all false
set_option maxRecDepth 100000
set_option autoImplicit false
namespace DL
open PySem PySem.Spec PyProof.Rows L2

section
variable {G : Gm} {E : XK} {X : Cx}
/-! ## targets -/
abbrev MG := D → DEnv → Sto → (DEnv → Sto → Prop) → XQ → Prop
abbrev MGs := List D → DEnv → Sto → (DEnv → Sto → Prop) → XQ → Prop
structure OutG (G : Gm) (E : XK) (W : Wd) (H : Hp) (k : DEnv → Sto → Prop) (xq : XQ) (Q : L2.St → Hp → Prop) : Prop where
  rt : ∀ W' H' ρ' σ' st', Le W H W' H' → Rel G W' H' st' → RpE G.K W' H' ρ' σ' → k ρ' st' → Q σ' H'
  xq : ∀ W' H' C st', Le W H W' H' → Rel G W' H' st' → xq C st' → E (.ref C) none H'
theorem OutG.le {W W' : Wd} {H H' : Hp} {k : DEnv → Sto → Prop} {xq : XQ} {Q : L2.St → Hp → Prop} (o : OutG G E W H k xq Q) (l : Le W H W' H') : OutG G E W' H' k xq Q :=
  ⟨fun _ _ _ _ _ q => o.rt _ _ _ _ _ (l.trans q), fun _ _ _ _ q => o.xq _ _ _ _ (l.trans q)⟩
def tDG (G : Gm) (E : XK) (g : MG) : TG := fun v σ H Q => ∃ W d ρ st k xq, Rel G W H st ∧ RpE G.K W H ρ σ ∧ Rp G.K W H d v ∧ g d ρ st k xq ∧ OutG G E W H k xq Q
def tDGs (G : Gm) (E : XK) (g : MGs) : TGs := fun vs σ H Q => ∃ W ds ρ st k xq, Rel G W H st ∧ RpE G.K W H ρ σ ∧ RpL G.K W H ds vs ∧ g ds ρ st k xq ∧ OutG G E W H k xq Q
def PDG (G : Gm) (E : XK) (X : Cx) (tg : Expr) (g : MG) : Prop := PG X tg (tDG G E g)
def PDGs (G : Gm) (E : XK) (X : Cx) (tgs : List Expr) (g : MGs) : Prop := PGs X tgs (tDGs G E g)
theorem PG.weak {X : Cx} {e : Expr} {t t' : TG} (h : PG X e t) (hw : ∀ v σ H Q, t' v σ H Q → t v σ H Q) : PG X e t' := ⟨fun pins s σ H v u Q I r q => h.run pins s σ H v u Q I r (hw _ _ _ _ q)⟩
theorem PGs.weak {X : Cx} {e : List Expr} {t t' : TGs} (h : PGs X e t) (hw : ∀ v σ H Q, t' v σ H Q → t v σ H Q) : PGs X e t' := ⟨fun pins s σ H v u Q I r q => h.run pins s σ H v u Q I r (hw _ _ _ _ q)⟩
@[simp] def gNm (i : Nat) : MG := fun d ρ st k _ => k (ρ.set i (some d)) st
theorem gd_nm (i : Nat) {x : Str} {pos : Pos} (hN : X.N.Nodup) (hi : X.N[i]? = some x := by rfl) (hx : Loc X.env.scope x := by first | exact Or.inl rfl | exact Or.inr rfl) (hf : X.fn x = true ∨ X.env.scope.names.lookup x = some .local := by first | exact .inl rfl | exact .inr rfl) : PDG G E X (.Name x pos) (gNm i) :=
  PG.weak (pg_name hN hi hx hf) fun v σ H Q ⟨W, d, ρ, st, k, xq, rel, re, rv, w, o⟩ => o.rt W H _ _ st Le.refl rel (re.set rv i) w
@[simp] def gsNil : MGs := fun ds ρ st k _ => ds = [] ∧ k ρ st
@[simp] def gsCons (g : MG) (r : MGs) : MGs := fun ds ρ st k xq => match ds with | d :: ds => g d ρ st (fun ρ1 st1 => r ds ρ1 st1 k xq) xq | [] => False
theorem gds_nil : PDGs G E X [] gsNil := PGs.weak pgs_nil fun v σ H Q ⟨W, d, ρ, st, k, xq, rel, re, rv, w, o⟩ => by
  obtain ⟨rfl, w⟩ := w
  simp only [RpL] at rv
  exact ⟨rv, o.rt W H _ _ st Le.refl rel re w⟩
theorem gds_cons {e : Expr} {es : List Expr} {g : MG} {r : MGs} (h1 : PDG G E X e g) (h2 : PDGs G E X es r) (hs : (assignEach (e :: es) X.env).map (·.2) = assign e X.env :: (assignEach es X.env).map (·.2) := by rfl) : PDGs G E X (e :: es) (gsCons g r) :=
  PGs.weak (pgs_cons h1 h2 hs) fun v σ H Q ⟨W, ds, ρ, st, k, xq, rel, re, rv, w, o⟩ => by
    unfold gsCons at w
    split at w
    · simp only [RpL] at rv
      obtain ⟨v1, r1, rfl, q1, q2⟩ := rv
      exact ⟨v1, r1, rfl, W, _, ρ, st, _, xq, rel, re, q1, w, ⟨fun W1 H1 ρ1 σ1 st1 l1 rel1 re1 w1 => ⟨W1, _, ρ1, st1, k, xq, rel1, re1, q2.le l1, w1, o.le l1⟩, o.xq⟩⟩
    · cases w
@[simp] def gTp (n : Nat) (r : MGs) : MG := fun d ρ st k xq => match d with | .tup ds => ds.length = n ∧ r ds ρ st k xq | _ => False
theorem gd_tp {es : List Expr} {j : Nat} {r : MGs} {n : Nat} {pos : Pos} (h : PDGs G E X es r) (hc : X.calm = true := by rfl) (hn : (assignEach es X.env).length = n := by rfl) (hst : (assignEach es X.env).findIdx? (·.1) = none := by rfl) (hK : G.K = X.K := by rfl) : PDG G E X (.Tuple es j pos) (gTp n r) :=
  PG.weak (pg_tup hc h hn hst) fun v σ H Q ⟨W, d, ρ, st, k, xq, rel, re, rv, w, o⟩ => by
    unfold gTp at w
    split at w
    · obtain ⟨a, vs, rfl, h1, h2⟩ := tup_sq rv
      rw [← hK]
      exact ⟨a, vs, rfl, h1, by rw [h2.length]; exact w.1, W, _, ρ, st, k, xq, rel, re, h2, w.2, o⟩
    · cases w
/-! o[i] = v -/
abbrev D3 := D → D → D → Sto → (Sto → Prop) → Prop
def rSetK : TSet := fun o i v H Q => ∃ a H', o = .ref a ∧ DPut H a i v H' ∧ Q H'
def rSET : TSet := fun o i v H Q => rSetL o i v H Q ∨ rSetK o i v H Q
theorem set_dict (hu : X.A.units + 1 < cLine) : PSet X rSetK := by
  intro pins s σ H o i v ov iv u Q I ro ri rv ⟨a, H', e, p, q⟩
  subst e
  cases (show ov = Value.ref a from ro)
  exact d_setItem hu I p ri rv fun s' I' => ⟨H', I', q⟩
theorem set_ALL (hu : X.A.units + 1 < cLine) : PSet X rSET := by
  intro pins s σ H o i v ov iv u Q I ro ri rv h
  rcases h with h | h
  · exact set_list pins s σ H o i v ov iv u Q I ro ri rv h
  · exact set_dict hu pins s σ H o i v ov iv u Q I ro ri rv h
def dSet : D3 := fun o i v st k => match o with
  | .hdl j => match st[j]? with
    | some (.lst xs) => onI i fun n => ∃ m, ixN xs.length n = some m ∧ k (st.set j (.lst (xs.set m v)))
    | some (.dK kvs) => kvs.length < sizeLine ∧ ∃ key, toK i = some key ∧ k (st.set j (.dK (putD kvs key v)))
    | _ => False
  | _ => False
theorem dSet_sd {W : Wd} {H : Hp} {st : Sto} {o i v : D} {ov iv u : V} {k : Sto → Prop} {Q : Hp → Prop} (rel : Rel G W H st) (ro : Rp G.K W H o ov) (ri : Rp G.K W H i iv) (rv : Rp G.K W H v u) (w : dSet o i v st k)
    (hQ : ∀ H' st', Le W H W H' → Rel G W H' st' → k st' → Q H') : rSET ov iv u H Q := by
  unfold dSet at w
  split at w
  · rename_i j
    simp only [Rp] at ro
    obtain ⟨a, h1, rfl⟩ := ro
    split at w
    · rename_i xs e
      obtain ⟨b, h2, vs, h3, h4⟩ := rel.cell _ _ e
      rw [h1] at h2; cases h2
      obtain ⟨n, rfl, m, e2, w⟩ := onI_of ri w
      exact .inl ⟨a, vs, n, m, rfl, rfl, h3, by rw [h4.length]; exact e2, hQ _ _ (Le.write (rel.mem h1)) (wrL rel h1 (h4.set rv m)) w⟩
    · rename_i kvs e
      obtain ⟨b, h2, vs, h3, h4⟩ := rel.cell _ _ e
      rw [h1] at h2; cases h2
      obtain ⟨hl, key, e2, w⟩ := w
      obtain rfl := toK_of ri e2
      exact .inr ⟨a, _, rfl, DPut.k h3 (by rw [h4.length]; exact hl), hQ _ _ (Le.write (rel.mem h1)) (wrK rel h1 (h4.put rv)) w⟩
    · cases w
  · cases w
@[simp] def gSb (wo wi : ME) : MG := fun d ρ st k xq => wo ρ st (fun o st1 => wi ρ st1 (fun i st2 => dSet o i d st2 (k ρ)) xq) xq
theorem gd_sb {o i : Expr} {wo wi : ME} {pos : Pos} (hu : X.A.units + 1 < cLine) (ho : PDE G E X o wo) (hi : PDE G E X i wi)
    (ha : ∀ v, assign (.Subscript o i pos) X.env v = (do
      let ov ← holding [v] (eval o X.env)
      let iv ← holding [v, ov] (eval i X.env)
      standAt pos
      holding [v, ov, iv] (setItem ov iv v)
      release [v, ov, iv] []) := by intro _; rfl) : PDG G E X (.Subscript o i pos) (gSb wo wi) :=
  PG.weak (pg_sub ho hi (set_ALL hu) ha) fun v σ H Q ⟨W, d, ρ, st, k, xq, rel, re, rv, w, o⟩ =>
    ⟨W, ρ, st, _, xq, rel, re, w, ⟨fun W1 H1 dx x st1 l1 rel1 rx w1 => ⟨W1, ρ, st1, _, xq, rel1, re.le l1, w1, ⟨fun W2 H2 di y st2 l2 rel2 ry w2 =>
      dSet_sd rel2 (rx.le l2) ry (rv.le (l1.trans l2)) w2 fun H' st' l3 rel3 w3 => o.rt W2 H' ρ σ st' (l1.trans (l2.trans l3)) rel3 (re.le (l1.trans (l2.trans l3))) w3, (o.le l1).xq⟩⟩, o.xq⟩⟩

/-! ## statements -/
@[simp] def sNx : MS := fun e ρ st => e.nx ρ st
@[simp] def sSeq (a b : MS) : MS := fun e ρ st => a { e with nx := fun ρ1 st1 => b e ρ1 st1 } ρ st
theorem sds_nil : PDSs G E X [] sNx := PSs.weak pss_nil fun Dn σ H ⟨W, ρ, st, e, rel, re, w, o⟩ => o.nx W H ρ σ st Le.refl rel re w
theorem sds_one {s : Stmt} {a : MS} (h : PDS G E X s a) : PDSs G E X [s] a := pss_one h
theorem sds_cons {s : Stmt} {r : List Stmt} {a b : MS} (h1 : PDS G E X s a) (h2 : PDSs G E X r b) : PDSs G E X (s :: r) (sSeq a b) :=
  PSs.weak (pss_cons h1 h2) fun Dn σ H ⟨W, ρ, st, e, rel, re, w, o⟩ =>
    ⟨W, ρ, st, _, rel, re, w, ⟨fun W1 H1 ρ1 σ1 st1 l1 rel1 re1 w1 => ⟨W1, ρ1, st1, e, rel1, re1, w1, o.le l1⟩, o.bk, o.ct, o.rt, o.xq⟩⟩
@[simp] def sBk : MS := fun e ρ st => e.bk ρ st
@[simp] def sCt : MS := fun e ρ st => e.ct ρ st
theorem sd_pass {pos : Pos} : PDS G E X (.Pass pos) sNx := PS.weak ps_pass fun Dn σ H ⟨W, ρ, st, e, rel, re, w, o⟩ => o.nx W H ρ σ st Le.refl rel re w
theorem sd_break {pos : Pos} : PDS G E X (.Break pos) sBk := PS.weak ps_break fun Dn σ H ⟨W, ρ, st, e, rel, re, w, o⟩ => o.bk W H ρ σ st Le.refl rel re w
theorem sd_continue {pos : Pos} : PDS G E X (.Continue pos) sCt := PS.weak ps_continue fun Dn σ H ⟨W, ρ, st, e, rel, re, w, o⟩ => o.ct W H ρ σ st Le.refl rel re w
@[simp] def sEx (w : ME) : MS := fun e ρ st => w ρ st (fun _ st1 => e.nx ρ st1) e.xq
theorem sd_expr {v : Expr} {w : ME} {pos : Pos} (h : PDE G E X v w) (hs : swapsWith v none pos.line X.env = pure false := by rfl) : PDS G E X (.Expr v pos) (sEx w) :=
  PS.weak (ps_expr h hs) fun Dn σ H ⟨W, ρ, st, e, rel, re, w, o⟩ =>
    ⟨W, ρ, st, _, e.xq, rel, re, w, ⟨fun W1 H1 d v st1 l1 rel1 rv w1 => o.nx W1 H1 ρ σ st1 l1 rel1 (re.le l1) w1, o.xq⟩⟩
@[simp] def sRt (w : ME) : MS := fun e ρ st => w ρ st e.rt e.xq
theorem sd_ret {v : Expr} {w : ME} {pos : Pos} (h : PDE G E X v w) : PDS G E X (.Return (some v) pos) (sRt w) :=
  PS.weak (ps_ret h) fun Dn σ H ⟨W, ρ, st, e, rel, re, w, o⟩ => ⟨W, ρ, st, e.rt, e.xq, rel, re, w, ⟨o.rt, o.xq⟩⟩
@[simp] def sRtN : MS := fun e _ st => e.rt .non st
theorem sd_retN {pos : Pos} : PDS G E X (.Return none pos) sRtN := PS.weak ps_retN fun Dn σ H ⟨W, ρ, st, e, rel, re, w, o⟩ => o.rt W H .non .non st Le.refl rel rfl w
@[simp] def sIf (t : MT) (a b : MS) : MS := fun e ρ st => t ρ st (fun c st1 => if c = true then a e ρ st1 else b e ρ st1) e.xq
theorem sd_if {c : Expr} {a b : List Stmt} {t : MT} {wa wb : MS} {pos : Pos} (hc : PDT G E X c t) (ha : PDSs G E X a wa) (hb : PDSs G E X b wb) : PDS G E X (.If c a b pos) (sIf t wa wb) :=
  PS.weak (ps_if hc ha hb) fun Dn σ H ⟨W, ρ, st, e, rel, re, w, o⟩ =>
    ⟨W, ρ, st, _, e.xq, rel, re, w, ⟨fun W1 H1 c st1 l1 rel1 w1 => by
      cases c with
      | true => exact ⟨W1, ρ, st1, e, rel1, re.le l1, w1, o.le l1⟩
      | false => exact ⟨W1, ρ, st1, e, rel1, re.le l1, w1, o.le l1⟩, o.xq⟩⟩
@[simp] def sAs (w : ME) (g : MG) : MS := fun e ρ st => w ρ st (fun d st1 => g d ρ st1 e.nx e.xq) e.xq
theorem as_out {W : Wd} {H : Hp} {ρ : DEnv} {σ : L2.St} {st : Sto} {e : DEnds} {Dn : Ends} {g : MG} (rel : Rel G W H st) (re : RpE G.K W H ρ σ) (o : OutS G E W H e Dn) :
    OutE G E W H (fun d st1 => g d ρ st1 e.nx e.xq) e.xq (fun x H1 => tDG G E g x σ H1 Dn.nx) :=
  ⟨fun W1 H1 d v st1 l1 rel1 rv w1 => ⟨W1, d, ρ, st1, e.nx, e.xq, rel1, re.le l1, rv, w1, ⟨(o.le l1).nx, (o.le l1).xq⟩⟩, o.xq⟩
theorem sd_asg {tg v : Expr} {w : ME} {g : MG} {pos : Pos} (hv : PDE G E X v w) (hg : PDG G E X tg g) (hs : swapsWithSole [tg] v pos.line X.env = pure false := by rfl) (hw : swappedStores [tg] v X.env = pure none := by rfl)
    (h1 : (assignEach [tg] X.env).map (·.2) = [assign tg X.env] := by rfl) : PDS G E X (.Assign [tg] v pos) (sAs w g) :=
  PS.weak (ps_asg hv hg hs hw h1) fun Dn σ H ⟨W, ρ, st, e, rel, re, w, o⟩ => ⟨W, ρ, st, _, e.xq, rel, re, w, as_out rel re o⟩
theorem sd_set (i : Nat) {x : Str} {v : Expr} {w : ME} {pos pos' : Pos} (hv : PDE G E X v w) (hN : X.N.Nodup) (hi : X.N[i]? = some x := by rfl) (hx : Loc X.env.scope x := by first | exact Or.inl rfl | exact Or.inr rfl) (hs : swapsWith v (some (.Name x pos')) pos.line X.env = pure false := by rfl) (hf : X.fn x = true ∨ X.env.scope.names.lookup x = some .local := by first | exact .inl rfl | exact .inr rfl) :
    PDS G E X (.Assign [.Name x pos'] v pos) (sAs w (gNm i)) :=
  PS.weak (ps_set hN hi hx hv hs hf) fun Dn σ H ⟨W, ρ, st, e, rel, re, w, o⟩ => ⟨W, ρ, st, _, e.xq, rel, re, w, ⟨fun W1 H1 d v st1 l1 rel1 rv w1 => o.nx W1 H1 _ _ st1 l1 rel1 ((re.le l1).set rv i) w1, o.xq⟩⟩
/-- a, b = x, y -/
@[simp] def sPar (i j : Nat) (w : MA) : MS := fun e ρ st => w ρ st (fun ds st1 => match ds with | [a, b] => e.nx ((ρ.set i (some a)).set j (some b)) st1 | _ => False) e.xq
theorem sd_par (i j : Nat) {x y : Str} {a b : Expr} {w : MA} {px py pt pos : Pos} {kt k2 pt2} (ha : PDA G E X [a, b] w) (hN : X.N.Nodup) (hij : i ≠ j := by decide) (hi : X.N[i]? = some x := by rfl) (hj : X.N[j]? = some y := by rfl) (hc : X.calm = true := by rfl)
    (hx : X.env.scope.names.lookup x = some .local := by rfl) (hy : X.env.scope.names.lookup y = some .local := by rfl)
    (hw : swappedStores [.Tuple [.Name x px, .Name y py] kt pt] (.Tuple [a, b] k2 pt2) X.env = pure (some [x, y]) := by rfl)
    (hs : swapsWithSole [.Tuple [.Name x px, .Name y py] kt pt] (.Tuple [a, b] k2 pt2) pos.line X.env = pure false := by rfl) :
    PDS G E X (.Assign [.Tuple [.Name x px, .Name y py] kt pt] (.Tuple [a, b] k2 pt2) pos) (sPar i j w) :=
  PS.weak (ps_par hc hN hi hj hij hx hy ha hw hs) fun Dn σ H ⟨W, ρ, st, e, rel, re, w, o⟩ =>
    ⟨W, ρ, st, _, e.xq, rel, re, w, ⟨fun W1 H1 ds vs st1 l1 rel1 rv w1 => by
      split at w1
      · obtain ⟨v, u, rfl, r1, r2⟩ := rpl2 rv
        exact ⟨v, u, rfl, o.nx W1 H1 _ _ st1 l1 rel1 (((re.le l1).set r1 i).set r2 j) w1⟩
      · exact w1.elim, o.xq⟩⟩
/-- x += e, numbers -/
@[simp] def sAug (i : Nat) (g : Int → Int → Int) (w : ME) : MS := fun e ρ st => match ρ[i]? with
  | some (some d) => w ρ st (fun y st1 => onI d fun a => onI y fun b => e.nx (ρ.set i (some (.int (g a b)))) st1) e.xq
  | _ => False
theorem sd_aug (i : Nat) {x : Str} {v : Expr} {w : ME} {op : Operator} {g : Int → Int → Int} {pos pos' : Pos} (ho : PIp X op (ipI g)) (hv : PDE G E X v w) (hN : X.N.Nodup) (hi : X.N[i]? = some x := by rfl) (hx : Loc X.env.scope x := by first | exact Or.inl rfl | exact Or.inr rfl) (hf : X.fn x = true ∨ X.env.scope.names.lookup x = some .local := by first | exact .inl rfl | exact .inr rfl) :
    PDS G E X (.AugAssign (.Name x pos') op v pos) (sAug i g w) :=
  PS.weak (ps_aug hN hi hx hv ho hf) fun Dn σ H ⟨W, ρ, st, e, rel, re, w, o⟩ => by
    unfold sAug at w
    split at w
    · rename_i d e1
      obtain ⟨v, h1, h2⟩ := re.get i d e1
      refine ⟨v, h1, W, ρ, st, _, e.xq, rel, re, w, ⟨fun W1 H1 dy y st1 l1 rel1 ry w1 => ?_, o.xq⟩⟩
      obtain ⟨a, rfl, w1⟩ := onI_of h2 w1
      obtain ⟨b, rfl, w1⟩ := onI_of ry w1
      exact ⟨a, b, rfl, rfl, o.nx W1 H1 _ _ st1 l1 rel1 ((re.le l1).set (d := .int (g a b)) (v := .int (g a b)) rfl i) w1⟩
    · cases w
/-! ### while -/
def sWh (c : MT) (b : MS) : MS := fun e ρ st => ∃ Wv : Nat → DEnv → Sto → Prop, (∃ m, Wv m ρ st) ∧ ∀ m ρ st, Wv m ρ st →
  c ρ st (fun z st1 => if z = true then b { e with nx := fun ρ' st' => ∃ m', m' < m ∧ Wv m' ρ' st', ct := fun ρ' st' => ∃ m', m' < m ∧ Wv m' ρ' st', bk := e.nx } ρ st1 else e.nx ρ st1) e.xq
theorem sd_while {c : Expr} {body : List Stmt} {wc : MT} {wb : MS} {pos : Pos} (hp : PassesOwn (model X.prog X.w) X.A X.env X.xe) (hc : PDT G E X c wc) (hb : PDSs G E X body wb) : PDS G E X (.While c body [] pos) (sWh wc wb) :=
  PS.weak (ps_while hp hc hb) fun Dn σ H ⟨W, ρ, st, e, rel, re, w, o⟩ => by
    obtain ⟨Wv, ⟨m0, w0⟩, turn⟩ := w
    refine ⟨fun m σ' H' => ∃ W' ρ' st', Le W H W' H' ∧ Rel G W' H' st' ∧ RpE G.K W' H' ρ' σ' ∧ Wv m ρ' st', ⟨m0, W, ρ, st, Le.refl, rel, re, w0⟩, ?_⟩
    rintro m σ1 H1 ⟨W1, ρ1, st1, l1, rel1, re1, w1⟩
    refine ⟨W1, ρ1, st1, _, e.xq, rel1, re1, turn m ρ1 st1 w1, ⟨fun W2 H2 z st2 l2 rel2 w2 => ?_, (o.le l1).xq⟩⟩
    cases z with
    | false => exact o.nx W2 H2 ρ1 σ1 st2 (l1.trans l2) rel2 (re1.le l2) w2
    | true =>
      refine ⟨fun σ' H' => ∃ m', m' < m ∧ ∃ W' ρ' st', Le W H W' H' ∧ Rel G W' H' st' ∧ RpE G.K W' H' ρ' σ' ∧ Wv m' ρ' st', fun σ' H' h => h, W2, ρ1, st2, _, rel2, re1.le l2, w2, ?_⟩
      have o2 := o.le (l1.trans l2)
      exact ⟨fun W3 H3 ρ3 σ3 st3 l3 rel3 re3 ⟨m', hm, w3⟩ => ⟨m', hm, W3, ρ3, st3, l1.trans (l2.trans l3), rel3, re3, w3⟩, o2.nx,
        fun W3 H3 ρ3 σ3 st3 l3 rel3 re3 ⟨m', hm, w3⟩ => ⟨m', hm, W3, ρ3, st3, l1.trans (l2.trans l3), rel3, re3, w3⟩, o2.rt, o2.xq⟩

/-! ### what is walked -/
abbrev MI := DEnv → Sto → (List D → (Sto → Prop) → Sto → Prop) → XQ → Prop
def ItD (G : Gm) (J : It) (W : Wd) (H : Hp) (xs : List D) (inv : Sto → Prop) : Prop :=
  ∀ (i : Nat) (W' : Wd) (H' : Hp) (st' : Sto), LeR W H W' H' → Rel G W' H' st' → inv st' →
    (xs.length ≤ i → J.stop i H') ∧ ∀ d, xs[i]? = some d → J.go i H' ∧ ∀ x H'', J.yld i H' x H'' → ∃ W'', Le W' H' W'' H'' ∧ Rel G W'' H'' st' ∧ Rp G.K W'' H'' d x
structure OutI (G : Gm) (E : XK) (W : Wd) (H : Hp) (R : List D → (Sto → Prop) → Sto → Prop) (xq : XQ) (Q : It → Hp → Prop) : Prop where
  rt : ∀ W' H' J xs inv st', Le W H W' H' → Rel G W' H' st' → ItD G J W' H' xs inv → R xs inv st' → Q J H'
  xq : ∀ W' H' C st', Le W H W' H' → Rel G W' H' st' → xq C st' → E (.ref C) none H'
def tDI (G : Gm) (E : XK) (wi : MI) : TI := fun σ H Q => ∃ W ρ st R xq, Rel G W H st ∧ RpE G.K W H ρ σ ∧ wi ρ st R xq ∧ OutI G E W H R xq Q
def PDI (G : Gm) (E : XK) (X : Cx) (tg iter : Expr) (wi : MI) : Prop := PI X tg iter (tDI G E wi)
theorem PI.weak {X : Cx} {tg e : Expr} {t t' : TI} (h : PI X tg e t) (hw : ∀ σ H Q, t' σ H Q → t σ H Q) : PI X tg e t' := ⟨fun pins s σ H Q I q => h.run pins s σ H Q I (hw _ _ _ q)⟩
/-- a list or a tuple -/
def iSeq (K : PySem.W.Frag) (tl : TE) : TI := fun σ H R => tl σ H fun x H1 => ∃ a, x = .ref a ∧ (((∃ xs, SqL K H1 a xs) ∧ R (Itl K a) H1) ∨ ((∃ xs, SqT K H1 a xs) ∧ R (Itt K a) H1))
theorem pi_seq {tg l : Expr} {tl : TE} (hl : PE X l tl) : PI X tg l (iSeq X.K tl) := by
  refine ⟨fun pins s σ H R I h => ?_⟩
  refine thn (hl.run pins s σ H _ I h) fun v s1 ⟨x, H1, I1, r1, q1⟩ => ?_
  obtain ⟨a, e, q | q⟩ := q1
  · obtain ⟨⟨xs, hq⟩, q⟩ := q
    subst e
    cases r1
    obtain ⟨its, rv, p, hz⟩ := I1.list hq
    refine wpAny_pyIter_list p.isList ?_
    refine ⟨s1.heap.objs.size, [s1.heap.objs.size], _, _, H1, rfl, I1.kept (t' := s1.toks) fun b o e => Heap.get?_push_of_some _ e, turn_list a _, ⟨_, Heap.get?_push_size _ rfl, rfl, rfl⟩, fun b hb => ?_, q⟩
    have e : b = s1.heap.objs.size := by simpa using hb
    subst e
    exact I1.fpOk (Nat.le_refl _) (I1.hok.fresh (Nat.le_refl _))
  · obtain ⟨⟨xs, hq⟩, q⟩ := q
    subst e
    cases r1
    obtain ⟨its, rv, p, hz⟩ := I1.tuple hq
    refine wpAny_pyIter_tuple (show s1.heap.IsTuple a its.toArray from p) ?_
    refine ⟨s1.heap.objs.size, [s1.heap.objs.size], _, _, H1, rfl, I1.kept (t' := s1.toks) fun b o e => Heap.get?_push_of_some _ e, turn_tuple a _, ⟨_, Heap.get?_push_size _ rfl, rfl, rfl⟩, fun b hb => ?_, q⟩
    have e : b = s1.heap.objs.size := by simpa using hb
    subst e
    exact I1.fpOk (Nat.le_refl _) (I1.hok.fresh (Nat.le_refl _))
theorem it_list {W : Wd} {H : Hp} {a : Addr} {xs : List D} {inv : Sto → Prop} (h : ∀ W' H' st', LeR W H W' H' → Rel G W' H' st' → inv st' → ∃ vs, SqL G.K H' a vs ∧ RpL G.K W' H' xs vs ) : ItD G (Itl G.K a) W H xs inv := by
  intro i W' H' st' l rel hi
  obtain ⟨vs, h1, h2⟩ := h W' H' st' l rel hi
  refine ⟨fun hl => ⟨vs, h1, by rw [h2.length]; exact hl⟩, fun d e => ?_⟩
  obtain ⟨v, e2, rv⟩ := h2.get e
  refine ⟨⟨vs, v, h1, e2⟩, fun x H'' y => ?_⟩
  obtain ⟨rfl, y⟩ := y
  have e3 := y vs h1
  rw [e2] at e3; cases e3
  exact ⟨W', Le.refl, rel, rv⟩
theorem it_tup {W : Wd} {H : Hp} {a : Addr} {xs : List D} {inv : Sto → Prop} (h : ∀ W' H' st', LeR W H W' H' → Rel G W' H' st' → inv st' → ∃ vs, SqT G.K H' a vs ∧ RpL G.K W' H' xs vs ) : ItD G (Itt G.K a) W H xs inv := by
  intro i W' H' st' l rel hi
  obtain ⟨vs, h1, h2⟩ := h W' H' st' l rel hi
  refine ⟨fun hl => ⟨vs, h1, by rw [h2.length]; exact hl⟩, fun d e => ?_⟩
  obtain ⟨v, e2, rv⟩ := h2.get e
  refine ⟨⟨vs, v, h1, e2⟩, fun x H'' y => ?_⟩
  obtain ⟨rfl, y⟩ := y
  have e3 := y vs h1
  rw [e2] at e3; cases e3
  exact ⟨W', Le.refl, rel, rv⟩
def noInv : Sto → Prop := fun _ => True
def dIt (d : D) (st : Sto) (R : List D → (Sto → Prop) → Sto → Prop) : Prop := match d with
  | .lst xs => R xs noInv st
  | .scr xs => R xs noInv st
  | .tup xs => R xs noInv st
  | .hdl k => match st[k]? with | some (.lst xs) => R xs (fun st' => st'[k]? = some (Cell.lst xs)) st | _ => False
  | _ => False
theorem dIt_hdl {st : Sto} {k : Nat} {xs : List D} {R : List D → (Sto → Prop) → Sto → Prop} (h : st[k]? = some (.lst xs)) : dIt (.hdl k) st R = R xs (fun st' => st'[k]? = some (Cell.lst xs)) st := by
  show (match st[k]? with | some (Cell.lst xs) => R xs (fun st' => st'[k]? = some (Cell.lst xs)) st | _ => False) = _
  rw [h]
@[simp] def miSeq (w : ME) : MI := fun ρ st R xq => w ρ st (fun d st1 => dIt d st1 R) xq
theorem mi_seq {tg l : Expr} {w : ME} (h : PDE G E X l w) (hK : G.K = X.K := by rfl) : PDI G E X tg l (miSeq w) :=
  PI.weak (pi_seq h) fun σ H Q ⟨W, ρ, st, R, xq, rel, re, w, o⟩ =>
    ⟨W, ρ, st, _, xq, rel, re, w, ⟨fun W1 H1 d v st1 l1 rel1 rv w1 => by
      rw [← hK]
      unfold dIt at w1
      split at w1
      · rename_i xs
        simp only [Rp] at rv
        obtain ⟨a, vs, rfl, h1, h2, h3, h4⟩ := rv
        refine ⟨a, rfl, .inl ⟨⟨vs, SqL.of h3⟩, o.rt W1 H1 _ xs _ st1 l1 rel1 (it_list fun W2 H2 st2 l2 _ _ => ⟨vs, SqL.of (l2.keep a _ h1 h2 h3).2.2, h4.leR l2⟩) w1⟩⟩
      · rename_i xs
        simp only [Rp] at rv
        obtain ⟨a, vs, rfl, h3, h4⟩ := rv
        refine ⟨a, rfl, .inl ⟨⟨vs, h3.sq⟩, o.rt W1 H1 _ xs _ st1 l1 rel1 (it_list fun W2 H2 st2 l2 _ _ => ⟨vs, (h3.leR l2).sq, h4.leR l2⟩) w1⟩⟩
      · rename_i xs
        simp only [Rp] at rv
        obtain ⟨a, vs, rfl, h3, h4⟩ := rv
        refine ⟨a, rfl, .inr ⟨⟨vs, h3.sq⟩, o.rt W1 H1 _ xs _ st1 l1 rel1 (it_tup fun W2 H2 st2 l2 _ _ => ⟨vs, (h3.leR l2).sq, h4.leR l2⟩) w1⟩⟩
      · rename_i k
        split at w1
        · rename_i xs e
          simp only [Rp] at rv
          obtain ⟨a, h1, rfl⟩ := rv
          obtain ⟨b, h2, vs, h3, h4⟩ := rel1.cell _ _ e
          rw [h1] at h2; cases h2
          refine ⟨a, rfl, .inl ⟨⟨vs, SqL.of h3⟩, o.rt W1 H1 _ xs _ st1 l1 rel1 (it_list fun W2 H2 st2 l2 rel2 hi => ?_) w1⟩⟩
          obtain ⟨b, h5, us, h6, h7⟩ := rel2.cell _ _ hi
          obtain ⟨t, et⟩ := l2.m
          have : W2.m[k]? = some a := by rw [et, List.getElem?_append_left (List.getElem?_eq_some_iff.mp h1).1]; exact h1
          rw [this] at h5; cases h5
          exact ⟨us, SqL.of h6, h7⟩
        · cases w1
      · exact w1.elim, o.xq⟩⟩
/-- range -/
def rngD (lo : Int) (n : Nat) : List D := (List.range n).map fun i => D.int (lo + (i : Nat))
theorem it_rng {W : Wd} {H : Hp} (lo : Int) (n : Nat) : ItD G (Itr lo n) W H (rngD lo n) noInv := by
  intro i W' H' st' l rel _
  refine ⟨fun hl => by show n ≤ i; simpa [rngD] using hl, fun d e => ?_⟩
  have hi : i < n := by
    have := (List.getElem?_eq_some_iff.mp e).1
    simpa [rngD] using this
  refine ⟨hi, fun x H'' y => ?_⟩
  obtain ⟨rfl, rfl⟩ := y
  refine ⟨W', Le.refl, rel, ?_⟩
  simp [rngD, hi] at e
  subst e
  rfl
@[simp] def miR1 (w : MA) : MI := fun ρ st R xq => w ρ st (fun ds st1 => match ds with | [.int j] => -(2 ^ 62) ≤ j ∧ j < 2 ^ 62 ∧ R (rngD 0 j.toNat) noInv st1 | _ => False) xq
theorem mi_r1 {tg a : Expr} {w : MA} {p pos : Pos} (hm : X.mg "range" = none) (ha : PDA G E X [a] w) (hg : Gl X "range" := by rfl) (hs : starEach [a] X.env = [(false, eval a X.env)] := by rfl) : PDI G E X tg (.Call (.Name "range" p) [a] [] pos) (miR1 w) :=
  PI.weak (pi_range1 hg hm ha hs) fun σ H Q ⟨W, ρ, st, R, xq, rel, re, w, o⟩ =>
    ⟨W, ρ, st, _, xq, rel, re, w, ⟨fun W1 H1 ds vs st1 l1 rel1 rv w1 => by
      split at w1
      · obtain ⟨v, rfl, rv2⟩ := rpl1 rv
        obtain rfl : v = V.int _ := rv2
        exact ⟨_, rfl, w1.1, w1.2.1, o.rt W1 H1 _ _ _ st1 l1 rel1 (it_rng 0 _) w1.2.2⟩
      · exact w1.elim, o.xq⟩⟩
@[simp] def miR2 (w : MA) : MI := fun ρ st R xq => w ρ st (fun ds st1 => match ds with | [.int i, .int j] => (-(2 ^ 62) ≤ i ∧ i < 2 ^ 62 ∧ -(2 ^ 62) ≤ j ∧ j < 2 ^ 62) ∧ R (rngD i (j - i).toNat) noInv st1 | _ => False) xq
theorem mi_r2 {tg a b : Expr} {w : MA} {p pos : Pos} (hm : X.mg "range" = none) (ha : PDA G E X [a, b] w) (hg : Gl X "range" := by rfl) (hs : starEach [a, b] X.env = [(false, eval a X.env), (false, eval b X.env)] := by rfl) (hs2 : starEach [b] X.env = [(false, eval b X.env)] := by rfl) : PDI G E X tg (.Call (.Name "range" p) [a, b] [] pos) (miR2 w) :=
  PI.weak (pi_range2 hg hm ha hs hs2) fun σ H Q ⟨W, ρ, st, R, xq, rel, re, w, o⟩ =>
    ⟨W, ρ, st, _, xq, rel, re, w, ⟨fun W1 H1 ds vs st1 l1 rel1 rv w1 => by
      split at w1
      · obtain ⟨v, u, rfl, rv2, ru⟩ := rpl2 rv
        obtain rfl : v = V.int _ := rv2
        obtain rfl : u = V.int _ := ru
        exact ⟨_, _, rfl, w1.1, o.rt W1 H1 _ _ _ st1 l1 rel1 (it_rng _ _) w1.2⟩
      · exact w1.elim, o.xq⟩⟩
/-- range(a, b, -1) -/
def rngDn (lo : Int) (n : Nat) : List D := (List.range n).map fun i => D.int (lo - (i : Nat))
theorem it_rngn {W : Wd} {H : Hp} (lo : Int) (n : Nat) : ItD G (Itc lo (-1) n) W H (rngDn lo n) noInv := by
  intro i W' H' st' l rel _
  refine ⟨fun hl => by show n ≤ i; simpa [rngDn] using hl, fun d e => ?_⟩
  have hi : i < n := by
    have := (List.getElem?_eq_some_iff.mp e).1
    simpa [rngDn] using this
  refine ⟨hi, fun x H'' y => ?_⟩
  obtain ⟨rfl, rfl⟩ := y
  refine ⟨W', Le.refl, rel, ?_⟩
  simp [rngDn, hi] at e
  subst e
  simp only [Rp]
  congr 1
  omega
@[simp] def miR3n (w : MA) : MI := fun ρ st R xq => w ρ st (fun ds st1 => match ds with | [.int i, .int j, .int c] => c = -1 ∧ (-(2 ^ 62) ≤ i ∧ i < 2 ^ 62 ∧ -(2 ^ 62) ≤ j ∧ j < 2 ^ 62) ∧ R (rngDn i (i - j).toNat) noInv st1 | _ => False) xq
/-! ### for -/
def forD (inv : Sto → Prop) (g : MG) (b : MS) (e : DEnds) : List D → DEnv → Sto → Prop
  | [], ρ, st => inv st ∧ e.nx ρ st
  | x :: xs, ρ, st => inv st ∧ g x ρ st (fun ρ1 st1 => b { e with nx := forD inv g b e xs, ct := forD inv g b e xs, bk := e.nx } ρ1 st1) e.xq
@[simp] def sFor (wi : MI) (g : MG) (b : MS) : MS := fun e ρ st => wi ρ st (fun xs inv st1 => forD inv g b e xs ρ st1) e.xq
theorem sd_for {tg iter : Expr} {body : List Stmt} {wi : MI} {g : MG} {wb : MS} {pos : Pos} (hp : PassesOwn (model X.prog X.w) X.A X.env X.xe) (hi : PDI G E X tg iter wi) (hg : PDG G E X tg g) (hb : PDSs G E X body wb) (hc : X.calm = true := by rfl)
    (hs : ∀ x, foldedSetIterable iter X.env x = pure x := by intro _; rfl) : PDS G E X (.For tg iter body [] pos) (sFor wi g wb) :=
  PS.weak (ps_for hp hc hi hg hb hs) fun Dn σ H ⟨W, ρ, st, e, rel, re, w, o⟩ =>
    ⟨W, ρ, st, _, e.xq, rel, re, w, ⟨fun W1 H1 J xs inv st1 l1 rel1 it w1 => by
      refine ⟨fun i m σ' H' => m = xs.length - i ∧ i ≤ xs.length ∧ ∃ W' ρ' st', Le W1 H1 W' H' ∧ Rel G W' H' st' ∧ RpE G.K W' H' ρ' σ' ∧ forD inv g wb e (xs.drop i) ρ' st', ⟨_, rfl, Nat.zero_le _, W1, ρ, st1, Le.refl, rel1, re.le l1, by simpa using w1⟩, ?_⟩
      rintro i m σ2 H2 ⟨rfl, hi, W2, ρ2, st2, l2, rel2, re2, w2⟩
      have o2 := o.le (l1.trans l2)
      by_cases hlt : i < xs.length
      · have ed : xs.drop i = xs[i] :: xs.drop (i + 1) := List.drop_eq_getElem_cons hlt
        rw [ed] at w2
        obtain ⟨hinv, w2⟩ := w2
        obtain ⟨go, hy⟩ := (it i W2 H2 st2 l2.r rel2 hinv).2 xs[i] (by simp [hlt])
        refine .inr ⟨go, fun σ' H' => ∃ W' ρ' st', Le W1 H1 W' H' ∧ Rel G W' H' st' ∧ RpE G.K W' H' ρ' σ' ∧ forD inv g wb e (xs.drop (i + 1)) ρ' st', fun σ' H' h => ⟨xs.length - (i + 1), by omega, rfl, hlt, h⟩, fun x H3 y => ?_⟩
        obtain ⟨W3, l3, rel3, rx⟩ := hy x H3 y
        have o3 := o2.le l3
        refine ⟨W3, xs[i], ρ2, st2, _, e.xq, rel3, re2.le l3, rx, w2, ⟨fun W4 H4 ρ4 σ4 st4 l4 rel4 re4 w4 => ?_, o3.xq⟩⟩
        have o4 := o3.le l4
        refine ⟨W4, ρ4, st4, _, rel4, re4, w4, ⟨fun W5 H5 ρ5 σ5 st5 l5 rel5 re5 w5 => ⟨W5, ρ5, st5, l2.trans (l3.trans (l4.trans l5)), rel5, re5, w5⟩, o4.nx,
          fun W5 H5 ρ5 σ5 st5 l5 rel5 re5 w5 => ⟨W5, ρ5, st5, l2.trans (l3.trans (l4.trans l5)), rel5, re5, w5⟩, o4.rt, o4.xq⟩⟩
      · have hil : i = xs.length := by omega
        subst hil
        rw [List.drop_length] at w2
        exact .inl ⟨(it _ W2 H2 st2 l2.r rel2 w2.1).1 (Nat.le_refl _), o2.nx W2 H2 ρ2 σ2 st2 Le.refl rel2 re2 w2.2⟩, o.xq⟩⟩
end
end DL

set_option Elab.async false
set_option linter.all false
set_option maxRecDepth 100000
set_option autoImplicit false
namespace DL
open PySem PySem.Spec PyProof.Rows L2
/-! ## dicts whose keys are tuples of keys -/
def valN (kvs : List (NK × D)) (k : NK) : Option D := (kvs.find? fun p => decide (p.1 = k)).map (·.2)
def putNK (kvs : List (NK × D)) (k : NK) (d : D) : List (NK × D) := if (kvs.any fun p => decide (p.1 = k)) = true then kvs.map (fun p => if p.1 = k then (p.1, d) else p) else kvs ++ [(k, d)]
mutual
/-- data that is a key -/
def nkOf : D → Option NK
  | .int i => some (.int i)
  | .str x => some (.str x)
  | .tup ds => (nkOfs ds).map .tup
  | _ => none
def nkOfs : List D → Option (List NK)
  | [] => some []
  | d :: ds => match nkOf d, nkOfs ds with
    | some k, some ks => some (k :: ks)
    | _, _ => none
end
mutual
theorem nkOf_d : ∀ (k : NK), nkOf k.d = some k
  | .int _ => rfl
  | .str _ => rfl
  | .tup ks => by simp only [NK.d, nkOf, nkOfs_d ks, Option.map_some]
theorem nkOfs_d : ∀ (ks : List NK), nkOfs (NK.ds ks) = some ks
  | [] => rfl
  | k :: ks => by simp only [NK.ds, nkOfs, nkOf_d k, nkOfs_d ks]
end
mutual
theorem nkOf_eq : ∀ {d : D} {k : NK}, nkOf d = some k → d = k.d
  | .int _, k, e => by simp only [nkOf] at e; cases e; rfl
  | .str _, k, e => by simp only [nkOf] at e; cases e; rfl
  | .tup ds, k, e => by
    simp only [nkOf, Option.map_eq_some_iff] at e
    obtain ⟨ks, e1, rfl⟩ := e
    simp only [NK.d]
    rw [nkOfs_eq e1]
  | .non, k, e => by simp [nkOf] at e
  | .bl _, k, e => by simp [nkOf] at e
  | .lst _, k, e => by simp [nkOf] at e
  | .scr _, k, e => by simp [nkOf] at e
  | .hdl _, k, e => by simp [nkOf] at e
  | .raw _, k, e => by simp [nkOf] at e
  | .exc _, k, e => by simp [nkOf] at e
theorem nkOfs_eq : ∀ {ds : List D} {ks : List NK}, nkOfs ds = some ks → ds = NK.ds ks
  | [], ks, e => by simp only [nkOfs] at e; cases e; rfl
  | d :: ds, ks, e => by
    simp only [nkOfs] at e
    split at e
    · rename_i k ks' e1 e2
      cases e
      simp only [NK.ds]
      rw [nkOf_eq e1, nkOfs_eq e2]
    · cases e
end
section
variable {X : Cx} {pins : List (Addr × Obj)} {σ : L2.St} {H : Hp} {s : Shared} {W : Wd}
/-- a key of the data stands in the heap -/
theorem nk_at (I : Inv X pins σ H s) : ∀ (k : NK) {v : V} {u : Value}, Rp X.K W H k.d v → RelV v u → NKAt s.heap k u := by
  refine NK.ind (fun i v u h r => ?_) (fun x v u h r => ?_) fun ks ih v u h r => ?_
  · simp only [NK.d, Rp] at h; subst h; simp only [NKAt]; exact r
  · simp only [NK.d, Rp] at h; subst h; simp only [NKAt]; exact r
  · simp only [NK.d] at h
    obtain ⟨a, vs, rfl, h1, h2⟩ := tup_sqK h
    cases (show u = Value.ref a from r)
    obtain ⟨its, rv, p, _⟩ := I.tuple h1
    simp only [NKAt]
    refine ⟨a, its.toArray, rfl, p, ?_⟩
    have go : ∀ (ks : List NK) (vs : List V) (us : List Value), (∀ k ∈ ks, ∀ {v : V} {u : Value}, Rp X.K W H k.d v → RelV v u → NKAt s.heap k u) → RpL X.K W H (NK.ds ks) vs → Vals vs us → NKAts s.heap ks us := by
      intro ks
      induction ks with
      | nil =>
        intro vs us _ q r
        simp only [NK.ds, RpL] at q
        subst q
        cases r
        simp only [NKAts]
      | cons k ks ih2 =>
        intro vs us Hk q r
        simp only [NK.ds, RpL] at q
        obtain ⟨v, r', rfl, q1, q2⟩ := q
        cases r with
        | cons r1 r2 =>
          simp only [NKAts]
          exact ⟨_, _, rfl, Hk k (by simp) q1 r1, ih2 _ _ (fun k' hk {_ _} a b => Hk k' (by simp [hk]) a b) q2 r2⟩
    exact go ks vs _ (fun k hk {_ _} a b => ih k hk a b) h2 rv
/-- the dict, as the library has it -/
theorem nd_of (I : Inv X pins σ H s) {a : Addr} {kvs : List (NK × D)} {vs : List (NK × Addr × V)} (e : H a = some (ndO X.w a vs)) (r : RpN X.K W H kvs vs) :
    kvs.length ≤ sizeLine ∧ (a == sysModules) = false ∧ ∃ xs : List (NK × Addr × Value), Paired (fun (p : NK × Addr × V) (q : NK × Addr × Value) => p.1 = q.1 ∧ p.2.1 = q.2.1 ∧ RelV p.2.2 q.2.2) vs xs ∧ s.heap.DictOfH (nkKind X.prog X.w) a xs ∧ xs.length = kvs.length := by
  obtain ⟨⟨z, y, xs, hp, o, es, ep, h1, h2, h3, h4, h5⟩, -⟩ := (show ObjOk X.prog X.w H s.heap a (ndO X.w a vs) from I.hok a _ e)
  have hl : vs.length = kvs.length := by
    clear e z hp
    induction kvs generalizing vs with
    | nil => simp only [RpN] at r; subst r; rfl
    | cons p kvs ih =>
      obtain ⟨k, d⟩ := p
      simp only [RpN] at r
      obtain ⟨b, v, r', rfl, _, _, _, q⟩ := r
      simp [ih q]
  refine ⟨by omega, y, xs, hp, ⟨o, es, ep, h1, h2, h3, h4, ?_, h5⟩, (Paired.length hp).symm.trans hl⟩
  clear h4 h5 hl e z
  induction hp generalizing kvs with
  | nil => intro x hx; cases hx
  | @cons p q ps qs hq t ih =>
    cases kvs with
    | nil => simp only [RpN] at r; cases r
    | cons kv kvs =>
      obtain ⟨k, d⟩ := kv
      simp only [RpN] at r
      obtain ⟨b, v, r', e', q1, q2, _, q3⟩ := r
      cases e'
      intro x hx
      rcases List.mem_cons.mp hx with rfl | hx
      · obtain ⟨a1, a2, _⟩ := hq
        refine ⟨?_, by rw [← a1]; exact q2⟩
        rw [← a1, ← a2]
        exact nk_at I _ q1 rfl
      · exact ih q3 x hx
end
theorem RpN.val {K : PySem.W.Frag} {W : Wd} {H : Hp} (k : NK) : ∀ {kvs : List (NK × D)} {vs : List (NK × Addr × V)} {xs : List (NK × Addr × Value)}, RpN K W H kvs vs → Paired (fun (p : NK × Addr × V) (q : NK × Addr × Value) => p.1 = q.1 ∧ p.2.1 = q.2.1 ∧ RelV p.2.2 q.2.2) vs xs →
    (∃ d v u b, valN kvs k = some d ∧ atKey xs k = some (b, u) ∧ Rp K W H d v ∧ RelV v u) ∨ (valN kvs k = none ∧ atKey xs k = none)
  | [], vs, xs, r, p => by
    simp only [RpN] at r
    subst r
    cases p
    exact .inr ⟨rfl, rfl⟩
  | (j, d) :: kvs, vs, xs, r, p => by
    simp only [RpN] at r
    obtain ⟨b, v, r', rfl, q1, q2, q3, q4⟩ := r
    cases p with
    | @cons _ q _ qs hq t =>
      obtain ⟨a1, a2, a3⟩ := hq
      obtain ⟨qk, qb, qu⟩ := q
      simp only at a1 a2 a3
      subst a1 a2
      by_cases h : j = k
      · subst h
        exact .inl ⟨d, v, qu, b, by simp [valN], by simp [atKey], q3, a3⟩
      · have := RpN.val k q4 t
        simpa [valN, atKey, List.find?_cons, h] using this
theorem anyN (k : NK) (kvs : List (NK × D)) : (kvs.any fun p => decide (p.1 = k)) = (valN kvs k).isSome := by
  induction kvs with
  | nil => rfl
  | cons p kvs ih =>
    by_cases h : p.1 = k
    · simp [valN, List.find?_cons, h]
    · simp only [List.any_cons, decide_eq_false h, Bool.false_or, ih]
      simp [valN, List.find?_cons, h]
theorem RpN.put {K : PySem.W.Frag} {W : Wd} {H : Hp} {k : NK} {d : D} {v : V} {u : Value} {b : Addr} (hk : Rp K W H k.d (.ref b)) (h8 : k.dep ≤ 8) (hv : Rp K W H d v) (ru : RelV v u) {kvs : List (NK × D)} {vs : List (NK × Addr × V)} {xs : List (NK × Addr × Value)} (r : RpN K W H kvs vs)
    (p : Paired (fun (p : NK × Addr × V) (q : NK × Addr × Value) => p.1 = q.1 ∧ p.2.1 = q.2.1 ∧ RelV p.2.2 q.2.2) vs xs) :
    ∃ vs', RpN K W H (putNK kvs k d) vs' ∧ Paired (fun (p : NK × Addr × V) (q : NK × Addr × Value) => p.1 = q.1 ∧ p.2.1 = q.2.1 ∧ RelV p.2.2 q.2.2) vs' (storedH xs k b u) := by
  have key := RpN.val k r p
  unfold putNK storedH
  rw [anyN]
  rcases key with ⟨d', v', u', b', e1, e2, _, _⟩ | ⟨e1, e2⟩
  · rw [e1, e2]
    simp only [Option.isSome_some, if_true]
    clear e1 e2
    refine ⟨vs.map fun q => if q.1 = k then (q.1, q.2.1, v) else q, ?_, ?_⟩
    · clear p
      induction kvs generalizing vs with
      | nil => simp only [RpN] at r; subst r; simp [RpN]
      | cons q kvs ih =>
        obtain ⟨j, dj⟩ := q
        simp only [RpN] at r
        obtain ⟨b1, v1, r', rfl, q1, q2, q3, q4⟩ := r
        rw [List.map_cons, List.map_cons]
        by_cases h : j = k
        · simp only [h, if_true]
          exact ⟨b1, v, _, rfl, by rw [← h]; exact q1, by rw [← h]; exact q2, hv, ih q4⟩
        · simp only [h, if_false]
          exact ⟨b1, v1, _, rfl, q1, q2, q3, ih q4⟩
    · clear r
      induction p with
      | nil => exact .nil
      | @cons p q ps qs hq t ih =>
        rw [List.map_cons, List.map_cons]
        refine .cons ?_ ih
        obtain ⟨a1, a2, a3⟩ := hq
        unfold putAt
        by_cases h : p.1 = k
        · rw [if_pos h, if_pos (a1.symm.trans h)]; exact ⟨a1, a2, ru⟩
        · rw [if_neg h, if_neg (fun z => h (a1.trans z))]; exact ⟨a1, a2, a3⟩
  · rw [e1, e2]
    simp only [Option.isSome_none, Bool.false_eq_true, if_false]
    refine ⟨vs ++ [(k, b, v)], ?_, Paired.snoc p ⟨rfl, rfl, ru⟩⟩
    clear p e1 e2
    induction kvs generalizing vs with
    | nil => simp only [RpN] at r; subst r; exact ⟨b, v, [], rfl, hk, h8, hv, rfl⟩
    | cons q kvs ih =>
      obtain ⟨j, dj⟩ := q
      simp only [RpN] at r
      obtain ⟨b1, v1, r', rfl, q1, q2, q3, q4⟩ := r
      exact ⟨b1, v1, _, rfl, q1, q2, q3, ih q4⟩
theorem putNK_len (kvs : List (NK × D)) (k : NK) (d : D) : (putNK kvs k d).length ≤ kvs.length + 1 := by
  unfold putNK
  split <;> simp
/-! ### the rules, by values -/
def rInN (G : Gm) (neg : Bool) : R2 := fun x y H Q => ∃ W a kvs vs k b, y = .ref a ∧ H a = some (ndO G.w a vs) ∧ RpN G.K W H kvs vs ∧ x = .ref b ∧ Rp G.K W H k.d (.ref b) ∧ k.dep ≤ 8 ∧ Q (.bl (if neg then !(valN kvs k).isSome else (valN kvs k).isSome)) H
def rIxN (G : Gm) : R2 := fun x y H Q => ∃ W a kvs vs k b d, x = .ref a ∧ H a = some (ndO G.w a vs) ∧ RpN G.K W H kvs vs ∧ y = .ref b ∧ Rp G.K W H k.d (.ref b) ∧ k.dep ≤ 8 ∧ valN kvs k = some d ∧ ∀ v, Rp G.K W H d v → Q v H
def rSetN (G : Gm) : TSet := fun o i v H Q => ∃ W a kvs vs k b d, o = .ref a ∧ H a = some (ndO G.w a vs) ∧ RpN G.K W H kvs vs ∧ i = .ref b ∧ Rp G.K W H k.d (.ref b) ∧ k.dep ≤ 8 ∧ Rp G.K W H d v ∧ kvs.length < sizeLine ∧ ∀ vs', RpN G.K W H (putNK kvs k d) vs' → Q (upd H a (ndO G.w a vs'))
section
variable {G : Gm} {X : Cx}
theorem op_inN (hu : X.A.units + 20 < cLine) (hK : G.K = X.K) (hw : G.w = X.w) : OpR X (compareOp .In) (rInN G false) := by
  intro pins s σ H x y v u Q I rx ry h
  obtain ⟨W, a, kvs, vs, k, b, rfl, e, r, rfl, hk, h8, q⟩ := h
  rw [hw] at e
  rw [hK] at r hk
  cases (show u = Value.ref a from ry)
  cases (show v = Value.ref b from rx)
  obtain ⟨z, hd, xs, hp, dd, _⟩ := nd_of I e r
  refine wpAny_in_heap (knd := nkKind X.prog X.w) (show X.A.units + 1 + 10 < cLine by omega) ⟨nk_at I k hk rfl, h8⟩ hd dd ?_
  refine ⟨.bl _, H, I.tok _, rfl, ?_⟩
  rcases RpN.val k r hp with ⟨d', v', u', b', e1, e2, _, _⟩ | ⟨e1, e2⟩
  · rw [e1] at q; rw [e2]; exact q
  · rw [e1] at q; rw [e2]; exact q
theorem op_notInN (hu : X.A.units + 20 < cLine) (hK : G.K = X.K) (hw : G.w = X.w) : OpR X (compareOp .NotIn) (rInN G true) := by
  intro pins s σ H x y v u Q I rx ry h
  obtain ⟨W, a, kvs, vs, k, b, rfl, e, r, rfl, hk, h8, q⟩ := h
  rw [hw] at e
  rw [hK] at r hk
  cases (show u = Value.ref a from ry)
  cases (show v = Value.ref b from rx)
  obtain ⟨z, hd, xs, hp, dd, _⟩ := nd_of I e r
  refine wpAny_notIn_heap (knd := nkKind X.prog X.w) (show X.A.units + 1 + 10 < cLine by omega) ⟨nk_at I k hk rfl, h8⟩ hd dd ?_
  refine ⟨.bl _, H, I.tok _, rfl, ?_⟩
  rcases RpN.val k r hp with ⟨d', v', u', b', e1, e2, _, _⟩ | ⟨e1, e2⟩
  · rw [e1] at q; rw [e2]; exact q
  · rw [e1] at q; rw [e2]; exact q
theorem ix_N (hu : X.A.units + 20 < cLine) (hK : G.K = X.K) (hw : G.w = X.w) : IxR X (rIxN G) := by
  intro value slice pins s σ H x y v u Q I rx ry h hs
  obtain ⟨W, a, kvs, vs, k, b, d, rfl, e, r, rfl, hk, h8, ed, q⟩ := h
  rw [hw] at e
  rw [hK] at r hk
  cases (show v = Value.ref a from rx)
  cases (show u = Value.ref b from ry)
  obtain ⟨z, hd, xs, hp, dd, _⟩ := nd_of I e r
  rcases RpN.val k r hp with ⟨d', v', u', b', e1, e2, e3, e4⟩ | ⟨e1, e2⟩
  · rw [ed] at e1
    cases e1
    exact tail_any dd.typeIs PySem.F.slot_dict_getitem.lookup (wpAny_getItem_heap (knd := nkKind X.prog X.w) (show X.A.units + 1 + 10 < cLine by omega) ⟨nk_at I k hk rfl, h8⟩ dd e2 ⟨v', H, I.tok _, e4, q v' (by rw [hK]; exact e3)⟩) hs
  · rw [ed] at e1; cases e1
theorem set_N (hu : X.A.units + 20 < cLine) (hK : G.K = X.K) (hw : G.w = X.w) : PSet X (rSetN G) := by
  intro pins s σ H o i v ov iv u Q I ro ri rv h
  obtain ⟨W, a, kvs, vs, k, b, d, rfl, e, r, rfl, hk, h8, hv, hl, q⟩ := h
  rw [hw] at e
  rw [hK] at r hk hv
  cases (show ov = Value.ref a from ro)
  cases (show iv = Value.ref b from ri)
  obtain ⟨z, hd, xs, hp, dd, hx⟩ := nd_of I e r
  refine wpAny_setItem_heap (knd := nkKind X.prog X.w) (hsz := by omega) (show X.A.units + 1 + 10 < cLine by omega) ⟨nk_at I k hk rfl, h8⟩ dd fun h' dd' hs => ?_
  obtain ⟨vs', r', p'⟩ := RpN.put hk h8 hv rv r hp
  refine ⟨_, d_write (ob := ndO G.w a vs') I (by rw [e]; exact True.intro) hs ?_ ?_, q vs' (by rw [hK]; exact r')⟩
  · obtain ⟨o', _, _, h1, _⟩ := dd'; exact ⟨o', h1⟩
  · obtain ⟨o', es, ep, h1, h2, h3, h4, _, h5⟩ := dd'
    have hlen : vs'.length ≤ sizeLine := by
      have l1 := Paired.length p'
      have l2 : (storedH xs k b u).length ≤ xs.length + 1 := by unfold storedH; split <;> simp
      omega
    refine ⟨⟨hlen, hd, _, p', o', es, ep, h1, h2, h3, ?_, h5⟩, ⟨o', h1⟩, fun g1 g2 hq hk' => ?_⟩
    · rw [hw]; exact h4
    · obtain ⟨y1, y2, zs, y3, o2, es2, ep2, y4, y5⟩ := hq
      exact ⟨y1, y2, zs, y3, o2, es2, ep2, hk' o2 y4, y5⟩
end
section
variable {G : Gm} {E : XK} {X : Cx}
/-- the dict at a handle -/
def onN (st : Sto) (d : D) (k : Nat → List (NK × D) → Prop) : Prop := match d with
  | .hdl j => match st[j]? with | some (.dN kvs) => k j kvs | _ => False
  | _ => False
theorem onN_hdl {st : Sto} {j : Nat} {kvs : List (NK × D)} {k : Nat → List (NK × D) → Prop} (h : st[j]? = some (.dN kvs)) : onN st (.hdl j) k = k j kvs := by
  show (match st[j]? with | some (.dN kvs) => k j kvs | _ => False) = _
  rw [h]
theorem onN_of {W : Wd} {H : Hp} {st : Sto} {d : D} {v : V} {k : Nat → List (NK × D) → Prop} (r : Rel G W H st) (p : Rp G.K W H d v) (h : onN st d k) :
    ∃ j a kvs vs, d = .hdl j ∧ st[j]? = some (.dN kvs) ∧ v = .ref a ∧ W.m[j]? = some a ∧ H a = some (ndO G.w a vs) ∧ RpN G.K W H kvs vs ∧ k j kvs := by
  unfold onN at h
  split at h
  · split at h
    · rename_i j _ kvs e
      simp only [Rp] at p
      obtain ⟨a, h1, rfl⟩ := p
      obtain ⟨b, h2, vs, h3, h4⟩ := r.cell _ _ e
      rw [h1] at h2; cases h2
      exact ⟨_, a, kvs, vs, rfl, e, rfl, h1, h3, h4, h⟩
    · cases h
  · cases h
theorem nkOf_ref {K : PySem.W.Frag} {W : Wd} {H : Hp} {ds : List D} {v : V} (h : Rp K W H (.tup ds) v) : ∃ b, v = .ref b := by
  simp only [Rp] at h
  obtain ⟨a, _, rfl, _⟩ := h
  exact ⟨a, rfl⟩
/-- a tuple that is a key -/
def onT (d : D) (k : NK → Prop) : Prop := match d with | .tup ds => ∃ j, nkOf (.tup ds) = some j ∧ j.dep ≤ 8 ∧ k j | _ => False
theorem onT_of {K : PySem.W.Frag} {W : Wd} {H : Hp} {d : D} {v : V} {k : NK → Prop} (p : Rp K W H d v) (h : onT d k) : ∃ j b, v = .ref b ∧ Rp K W H j.d (.ref b) ∧ j.dep ≤ 8 ∧ nkOf d = some j ∧ k j := by
  unfold onT at h
  split at h
  · rename_i ds
    obtain ⟨j, e, h8, h⟩ := h
    obtain ⟨b, rfl⟩ := nkOf_ref p
    exact ⟨j, b, rfl, by rw [← nkOf_eq e]; exact p, h8, e, h⟩
  · cases h
@[simp] def dInN (neg : Bool) : D2 := fun x y st R => onN st y fun _ kvs => onT x fun k => R (.bl (if neg then !(valN kvs k).isSome else (valN kvs k).isSome)) st
@[simp] def dIxN : D2 := fun x y st R => onN st x fun _ kvs => onT y fun k => ∃ d, valN kvs k = some d ∧ R d st
theorem od_inN (neg : Bool) : OpD G (rInN G neg) (dInN neg) := by
  intro E W H st dx dy x y R xq Q rel rx ry w o
  obtain ⟨j, a, kvs, vs, _, _, rfl, h1, h2, h3, w⟩ := onN_of rel ry w
  obtain ⟨k, b, rfl, h4, h5, _, w⟩ := onT_of rx w
  exact ⟨W, a, kvs, vs, k, b, rfl, h2, h3, rfl, h4, h5, o.rt W H (.bl _) _ st Le.refl rel rfl w⟩
theorem od_ixN : OpD G (rIxN G) dIxN := by
  intro E W H st dx dy x y R xq Q rel rx ry w o
  obtain ⟨j, a, kvs, vs, _, _, rfl, h1, h2, h3, w⟩ := onN_of rel rx w
  obtain ⟨k, b, rfl, h4, h5, _, d, h6, w⟩ := onT_of ry w
  exact ⟨W, a, kvs, vs, k, b, d, rfl, h2, h3, rfl, h4, h5, h6, fun v rv => o.rt W H d v st Le.refl rel rv w⟩
theorem pd_inN {a b : Expr} {wa wb : ME} {pos : Pos} (hu : X.A.units + 20 < cLine) (ha : PDE G E X a wa) (hb : PDE G E X b wb) (hm : behindInMarks .In b = false := by rfl) (hK : G.K = X.K := by rfl) (hw : G.w = X.w := by first | rfl | assumption) : PDE G E X (.Compare a [.In] [b] pos) (mOp (dInN false) wa wb) := pd_cmp (op_inN hu hK hw) (od_inN false) ha hb hm
theorem pt_inN {a b : Expr} {wa wb : ME} {pos : Pos} (hu : X.A.units + 20 < cLine) (ha : PDE G E X a wa) (hb : PDE G E X b wb) (hm : behindInMarks .In b = false := by rfl) (hK : G.K = X.K := by rfl) (hw : G.w = X.w := by first | rfl | assumption) : PDT G E X (.Compare a [.In] [b] pos) (mTest (mOp (dInN false) wa wb)) := pt_cmp (op_inN hu hK hw) (od_inN false) ha hb hm
theorem pd_ninN {a b : Expr} {wa wb : ME} {pos : Pos} (hu : X.A.units + 20 < cLine) (ha : PDE G E X a wa) (hb : PDE G E X b wb) (hm : behindInMarks .NotIn b = false := by rfl) (hK : G.K = X.K := by rfl) (hw : G.w = X.w := by first | rfl | assumption) : PDE G E X (.Compare a [.NotIn] [b] pos) (mOp (dInN true) wa wb) := pd_cmp (op_notInN hu hK hw) (od_inN true) ha hb hm
theorem pt_ninN {a b : Expr} {wa wb : ME} {pos : Pos} (hu : X.A.units + 20 < cLine) (ha : PDE G E X a wa) (hb : PDE G E X b wb) (hm : behindInMarks .NotIn b = false := by rfl) (hK : G.K = X.K := by rfl) (hw : G.w = X.w := by first | rfl | assumption) : PDT G E X (.Compare a [.NotIn] [b] pos) (mTest (mOp (dInN true) wa wb)) := pt_cmp (op_notInN hu hK hw) (od_inN true) ha hb hm
theorem pd_ixN {a b : Expr} {wa wb : ME} {pos : Pos} (hu : X.A.units + 20 < cLine) (ha : PDE G E X a wa) (hb : PDE G E X b wb) (hs : PlainIx b := by intro _ _; rfl) (hK : G.K = X.K := by rfl) (hw : G.w = X.w := by first | rfl | assumption) : PDE G E X (.Subscript a b pos) (mOp dIxN wa wb) :=
  PE.weak (pe_ix (ix_N hu hK hw) ha hb hs) fun _ _ _ h => op_lift od_ixN h
/-- d[k] = v -/
def dSetN : D3 := fun o i v st k => onN st o fun j kvs => onT i fun key => kvs.length < sizeLine ∧ k (st.set j (.dN (putNK kvs key v)))
@[simp] def gSbN (wo wi : ME) : MG := fun d ρ st k xq => wo ρ st (fun o st1 => wi ρ st1 (fun i st2 => dSetN o i d st2 (k ρ)) xq) xq
theorem gd_sbN {o i : Expr} {wo wi : ME} {pos : Pos} (hu : X.A.units + 20 < cLine) (ho : PDE G E X o wo) (hi : PDE G E X i wi)
    (ha : ∀ v, assign (.Subscript o i pos) X.env v = (do
      let ov ← holding [v] (eval o X.env)
      let iv ← holding [v, ov] (eval i X.env)
      standAt pos
      holding [v, ov, iv] (setItem ov iv v)
      release [v, ov, iv] []) := by intro _; rfl) (hK : G.K = X.K := by rfl) (hw : G.w = X.w := by first | rfl | assumption) : PDG G E X (.Subscript o i pos) (gSbN wo wi) :=
  PG.weak (pg_sub ho hi (set_N hu hK hw) ha) fun v σ H Q ⟨W, d, ρ, st, k, xq, rel, re, rv, w, o⟩ =>
    ⟨W, ρ, st, _, xq, rel, re, w, ⟨fun W1 H1 dx x st1 l1 rel1 rx w1 => ⟨W1, ρ, st1, _, xq, rel1, re.le l1, w1, ⟨fun W2 H2 di y st2 l2 rel2 ry w2 => by
      obtain ⟨j, a, kvs, vs, _, _, rfl, h1, h2, h3, w2⟩ := onN_of rel2 (rx.le l2) w2
      obtain ⟨key, b, rfl, h4, h5, _, hl, w2⟩ := onT_of ry w2
      refine ⟨W2, a, kvs, vs, key, b, d, rfl, h2, h3, rfl, h4, h5, rv.le (l1.trans l2), hl, fun vs' r' => ?_⟩
      have l3 := Le.write (H := H2) (o := ndO G.w a vs') (rel2.mem h1)
      exact o.rt W2 _ ρ σ _ (l1.trans (l2.trans l3)) (rel2.write h1 (c := .dN (putNK kvs key d)) ⟨vs', upd_same, r'.le l3⟩) (re.le (l1.trans (l2.trans l3))) w2, (o.le l1).xq⟩⟩, o.xq⟩⟩
/-- {} -/
def mDicN : ME := fun _ st R _ => R (.hdl st.length) (st ++ [.dN []])
theorem pe_dnewN {pos : Pos} {w : World} (hw : w = X.w) : PE X (.Dict [] [] pos) (fun _ H Q => ∀ p, H p = none → Q (.ref p) (upd H p (ndO w p []))) := ⟨fun pins s σ H Q I h =>
  wpAny_Dict_empty ⟨.ref s.heap.objs.size, _, I.laid (a := s.heap.objs.size) (o := ndO w s.heap.objs.size []) (t' := s.toks) (fun _ _ q => Heap.get?_push_of_some _ q) (Nat.le_refl _)
    ⟨⟨Nat.zero_le _, beq_eq_false_iff_ne.mpr (Ne.symm (Nat.ne_of_lt I.big)), [], .nil, _, #[], 0, Heap.get?_push_size _ rfl, ⟨rfl, rfl, rfl⟩, rfl, rfl, List.nodup_nil⟩, ⟨_, Heap.get?_push_size _ rfl⟩, fun g1 g2 ⟨y1, y2, zs, y3, o2, es2, ep2, y4, y5⟩ hk => ⟨y1, y2, zs, y3, o2, es2, ep2, hk o2 y4, y5⟩⟩,
    rfl, h _ (I.hok.fresh (Nat.le_refl _))⟩⟩
theorem pd_dicN {pos : Pos} (hw : G.w = X.w := by first | rfl | assumption) : PDE G E X (.Dict [] [] pos) mDicN :=
  PE.weak (pe_dnewN hw) fun σ H Q ⟨W, ρ, st, R, xq, rel, re, w, o⟩ p hp =>
    let q := newHN (ds := []) (vs := []) rel hp (by simp only [RpN])
    o.rt _ _ (.hdl st.length) (.ref p) _ (Le.new hp) q.1 q.2 w
end
section
variable {ρ : DEnv} {st : Sto} {R : DQ} {xq : XQ}
theorem dInN_h {n : Bool} {x : D} {j : Nat} {kvs : List (NK × D)} {k : NK} (e : st[j]? = some (.dN kvs)) (ek : nkOf x = some k) (h8 : k.dep ≤ 8) (ht : ∃ ds, x = .tup ds) (h : R (.bl (if n then !(valN kvs k).isSome else (valN kvs k).isSome)) st) : dInN n x (.hdl j) st R := by
  obtain ⟨ds, rfl⟩ := ht
  simp only [dInN, onN_hdl e, onT]
  exact ⟨k, ek, h8, h⟩
theorem dIxN_h {x : D} {j : Nat} {kvs : List (NK × D)} {k : NK} {d : D} (e : st[j]? = some (.dN kvs)) (ek : nkOf x = some k) (h8 : k.dep ≤ 8) (ht : ∃ ds, x = .tup ds) (ed : valN kvs k = some d) (h : R d st) : dIxN (.hdl j) x st R := by
  obtain ⟨ds, rfl⟩ := ht
  simp only [dIxN, onN_hdl e, onT]
  exact ⟨k, ek, h8, d, ed, h⟩
theorem dSetN_h {x v : D} {j : Nat} {kvs : List (NK × D)} {k : NK} {q : Sto → Prop} (e : st[j]? = some (.dN kvs)) (ek : nkOf x = some k) (h8 : k.dep ≤ 8) (ht : ∃ ds, x = .tup ds) (hl : kvs.length < sizeLine) (h : q (st.set j (.dN (putNK kvs k v)))) : dSetN (.hdl j) x v st q := by
  obtain ⟨ds, rfl⟩ := ht
  simp only [dSetN, onN_hdl e, onT]
  exact ⟨k, ek, h8, hl, h⟩
theorem gSbN_i {wa wb : ME} {d : D} {k : DEnv → Sto → Prop} (h : wa ρ st (fun o st1 => wb ρ st1 (fun i st2 => dSetN o i d st2 (k ρ)) xq) xq) : gSbN wa wb d ρ st k xq := h
theorem mDicN_i (h : R (.hdl st.length) (st ++ [.dN []])) : mDicN ρ st R xq := h
end
end DL

set_option Elab.async false
set_option linter.all false
set_option maxRecDepth 100000
set_option autoImplicit false
namespace DL
open PySem PySem.Spec PyProof.Rows L2

/-! ## targets of a comprehension: names, tuples of targets -/
inductive Tgt where
  | nm (i : Nat) | tp (ts : List Tgt)
mutual
def Tgt.h (K : PySem.W.Frag) : Tgt → TG
  | .nm i => gName i
  | .tp ts => gTup K ts.length (Tgt.hs K ts)
def Tgt.hs (K : PySem.W.Frag) : List Tgt → TGs
  | [] => gNil
  | t :: ts => gCons (Tgt.h K t) (Tgt.hs K ts)
end
mutual
def Tgt.run : Tgt → D → DEnv → (DEnv → Prop) → Prop
  | .nm i, d, ρ, k => k (ρ.set i (some d))
  | .tp ts, d, ρ, k => match d with | .tup ds => ds.length = ts.length ∧ Tgt.runs ts ds ρ k | _ => False
def Tgt.runs : List Tgt → List D → DEnv → (DEnv → Prop) → Prop
  | [], ds, ρ, k => ds = [] ∧ k ρ
  | t :: ts, ds, ρ, k => match ds with | d :: ds => Tgt.run t d ρ (fun ρ1 => Tgt.runs ts ds ρ1 k) | [] => False
end
mutual
def Tgt.sl : Tgt → List Nat
  | .nm i => [i]
  | .tp ts => Tgt.sls ts
def Tgt.sls : List Tgt → List Nat
  | [] => []
  | t :: ts => Tgt.sl t ++ Tgt.sls ts
end
theorem wipe_set {i : Nat} {x : Option V} : ∀ {vs : List Nat} {σ : L2.St}, i ∈ vs → wipe (σ.set i x) vs = wipe σ vs
  | [], _, h => by cases h
  | v :: vs, σ, h => by
    unfold wipe
    by_cases e : i ∈ vs
    · rw [wipe_set e]
    · have hv : i = v := by
        rcases List.mem_cons.mp h with h | h
        · exact h
        · exact absurd h e
      subst hv
      have comm : ∀ {us : List Nat} {σ : L2.St}, i ∉ us → wipe (σ.set i x) us = (wipe σ us).set i x := by
        intro us
        induction us with
        | nil => intro σ _; rfl
        | cons u us ih =>
          intro σ hu
          simp only [List.mem_cons, not_or] at hu
          unfold wipe
          rw [ih hu.2, List.set_comm _ _ hu.1]
      rw [comm e, List.set_set]
theorem wipe_get {i : Nat} : ∀ {vs : List Nat} {σ : L2.St}, (wipe σ vs)[i]? = if i ∈ vs then (σ[i]?).map (fun _ => none) else σ[i]?
  | [], σ => by simp [wipe]
  | v :: vs, σ => by
    unfold wipe
    by_cases e : v = i
    · subst e
      simp only [List.mem_cons, true_or, if_true]
      by_cases h : v < (wipe σ vs).length
      · rw [List.getElem?_set_self h]
        rw [wipe_length] at h
        simp [h]
      · rw [List.getElem?_eq_none (by simpa using h)]
        rw [wipe_length] at h
        rw [List.getElem?_eq_none (by omega)]
        rfl
    · rw [List.getElem?_set_ne e, wipe_get]
      simp only [List.mem_cons, Ne.symm e, false_or]
theorem wipe_wipe {vs : List Nat} {σ : L2.St} : wipe (wipe σ vs) vs = wipe σ vs := by
  apply List.ext_getElem?
  intro i
  rw [wipe_get, wipe_get]
  split
  · cases σ[i]? <;> rfl
  · rfl
section
variable {K : PySem.W.Frag} {W : Wd} {H : Hp} {vs : List Nat}
mutual
theorem Tgt.sd : ∀ (t : Tgt) {d : D} {v : V} {ρ : DEnv} {σ : L2.St} {k : DEnv → Prop} {Q : L2.St → Hp → Prop}, (∀ i ∈ t.sl, i ∈ vs) → RpE K W H ρ σ → Rp K W H d v → t.run d ρ k → (∀ ρ' σ', RpE K W H ρ' σ' → wipe σ' vs = wipe σ vs → k ρ' → Q σ' H) → t.h K v σ H Q
  | .nm i, d, v, ρ, σ, k, Q, hs, re, rv, w, o => o _ _ (re.set rv i) (wipe_set (hs i (by simp [Tgt.sl]))) w
  | .tp ts, d, v, ρ, σ, k, Q, hs, re, rv, w, o => by
    simp only [Tgt.run] at w
    split at w
    · obtain ⟨a, us, rfl, h1, h2⟩ := tup_sqK rv
      show gTup K ts.length (Tgt.hs K ts) (.ref a) σ H Q
      exact ⟨a, us, rfl, h1, by rw [h2.length]; exact w.1, Tgt.sds ts hs re h2 w.2 o⟩
    · cases w
theorem Tgt.sds : ∀ (ts : List Tgt) {ds : List D} {us : List V} {ρ : DEnv} {σ : L2.St} {k : DEnv → Prop} {Q : L2.St → Hp → Prop}, (∀ i ∈ Tgt.sls ts, i ∈ vs) → RpE K W H ρ σ → RpL K W H ds us → Tgt.runs ts ds ρ k → (∀ ρ' σ', RpE K W H ρ' σ' → wipe σ' vs = wipe σ vs → k ρ' → Q σ' H) → Tgt.hs K ts us σ H Q
  | [], ds, us, ρ, σ, k, Q, hs, re, rv, w, o => by
    simp only [Tgt.runs] at w
    obtain ⟨rfl, w⟩ := w
    simp only [RpL] at rv
    exact ⟨rv, o _ _ re rfl w⟩
  | t :: ts, ds, us, ρ, σ, k, Q, hs, re, rv, w, o => by
    simp only [Tgt.runs] at w
    split at w
    · simp only [RpL] at rv
      obtain ⟨v, r, rfl, h1, h2⟩ := rv
      show gCons (Tgt.h K t) (Tgt.hs K ts) (v :: r) σ H Q
      refine ⟨v, r, rfl, Tgt.sd t (Q := fun σ' H' => Tgt.hs K ts r σ' H' Q) (fun i hi => hs i (by simp [Tgt.sls, hi])) re h1 w fun ρ' σ' re' hw w' => ?_⟩
      exact Tgt.sds ts (fun i hi => hs i (by simp [Tgt.sls, hi])) re' h2 w' fun ρ2 σ2 re2 hw2 w2 => o ρ2 σ2 re2 (hw2.trans hw) w2
    · cases w
end
end
def PTg (X : Cx) (tg : Expr) (t : Tgt) : Prop := PG X tg (t.h X.K)
def PTgs (X : Cx) (tgs : List Expr) (ts : List Tgt) : Prop := PGs X tgs (Tgt.hs X.K ts)
section
variable {X : Cx}
theorem tg_nm (i : Nat) {x : Str} {pos : Pos} (hN : X.N.Nodup) (hi : X.N[i]? = some x := by rfl) (hx : Loc X.env.scope x := by first | exact Or.inl rfl | exact Or.inr rfl) (hf : X.fn x = true ∨ X.env.scope.names.lookup x = some .local := by first | exact .inl rfl | exact .inr rfl) : PTg X (.Name x pos) (.nm i) := pg_name hN hi hx hf
theorem tgs_nil : PTgs X [] [] := pgs_nil
theorem tgs_cons {e : Expr} {es : List Expr} {t : Tgt} {ts : List Tgt} (h1 : PTg X e t) (h2 : PTgs X es ts) (hs : (assignEach (e :: es) X.env).map (·.2) = assign e X.env :: (assignEach es X.env).map (·.2) := by rfl) : PTgs X (e :: es) (t :: ts) := pgs_cons h1 h2 hs
theorem tg_tp {es : List Expr} {k : Nat} {ts : List Tgt} {pos : Pos} (h : PTgs X es ts) (hc : X.calm = true := by rfl) (hn : (assignEach es X.env).length = ts.length := by rfl) (hst : (assignEach es X.env).findIdx? (·.1) = none := by rfl) : PTg X (.Tuple es k pos) (.tp ts) := pg_tup hc h hn hst
end

/-! ## comprehensions -/
@[simp] def noX : XQ := fun _ _ => False
@[simp] def wipeD (ρ : DEnv) : List Nat → DEnv
  | [] => ρ
  | v :: vs => (wipeD ρ vs).set v none
theorem RpE.wipe {K : PySem.W.Frag} {W : Wd} {H : Hp} {ρ : DEnv} {σ : L2.St} (r : RpE K W H ρ σ) : ∀ vs : List Nat, RpE K W H (wipeD ρ vs) (L2.wipe σ vs)
  | [] => r
  | v :: vs => by
    have ih := r.wipe vs
    unfold wipeD L2.wipe
    refine ⟨by simp [ih.len], fun i d e => ?_⟩
    by_cases h : v = i
    · subst h
      by_cases hv : v < (wipeD ρ vs).length
      · rw [List.getElem?_set_self hv] at e; cases e
      · rw [List.getElem?_eq_none (by simpa using hv)] at e; cases e
    · rw [List.getElem?_set_ne h] at e
      obtain ⟨u, h1, h2⟩ := ih.get i d e
      exact ⟨u, by rw [List.getElem?_set_ne h]; exact h1, h2⟩
theorem RpE.leR {K : PySem.W.Frag} {W W' : Wd} {H H' : Hp} {ρ : DEnv} {σ : L2.St} (r : RpE K W H ρ σ) (l : LeR W H W' H') : RpE K W' H' ρ σ :=
  ⟨r.len, fun i d e => let ⟨v, h1, h2⟩ := r.get i d e; ⟨v, h1, h2.leR l⟩⟩
def lcD (inv : Sto → Prop) (g : Tgt) (tt : MT) (te : ME) (ρ : DEnv) (R : List D → Sto → Prop) : List D → List D → Sto → Prop
  | [], acc, st => inv st ∧ R acc st
  | x :: xs, acc, st => inv st ∧ g.run x ρ fun ρ1 => tt ρ1 st (fun b st1 => if b = true then te ρ1 st1 (fun d st2 => acc.length < sizeLine ∧ lcD inv g tt te ρ R xs (acc ++ [d]) st2) noX else lcD inv g tt te ρ R xs acc st1) noX
/-- the list as data, as a handle -/
@[simp] def mLc (wi : MI) (g : Tgt) (tt : MT) (te : ME) (vs : List Nat) : ME := fun ρ st R xq => wi ρ st (fun xs inv st1 => lcD inv g tt te (wipeD ρ vs) (fun acc st2 => R (.lst acc) st2) xs [] st1) xq
@[simp] def mLcH (wi : MI) (g : Tgt) (tt : MT) (te : ME) (vs : List Nat) : ME := fun ρ st R xq => wi ρ st (fun xs inv st1 => lcD inv g tt te (wipeD ρ vs) (fun acc st2 => R (.hdl st2.length) (st2 ++ [.lst acc])) xs [] st1) xq
@[simp] def mYes : MT := fun _ st R _ => R true st
def PDTs (G : Gm) (E : XK) (X : Cx) (es : List Expr) (w : MT) : Prop := PTs X es (tDT G E w)
theorem ts_nil {G : Gm} {E : XK} {X : Cx} : PDTs G E X [] mYes := ⟨fun pins s σ H Q I ⟨W, ρ, st, R, xq, rel, re, w, o⟩ => wpAny_tests_nil ⟨H, I, o.rt W H true st Le.refl rel w⟩⟩
theorem ts_one {G : Gm} {E : XK} {X : Cx} {c : Expr} {w : MT} (h : PDT G E X c w) : PDTs G E X [c] w := pts_one h
/-- the loop of a comprehension -/
theorem lc_loop {G : Gm} {J : It} {W1 : Wd} {H1 : Hp} {xs : List D} {inv : Sto → Prop} {g : Tgt} {tt : MT} {te : ME} {ρ : DEnv} {σ : L2.St} {R : List D → Sto → Prop} {st1 : Sto} {vs : List Nat} {Q : Hp → Prop} {D : Addr}
    (rel : Rel G W1 H1 st1) (re : RpE G.K W1 H1 ρ σ) (it : ItD G J W1 H1 xs inv) (hg : ∀ i ∈ g.sl, i ∈ vs) (hD : H1 D = none)
    (w : lcD inv g tt te (wipeD ρ vs) R xs [] st1)
    (fin : ∀ m' H' acc vacc st', Le W1 H1 ⟨m', W1.ex⟩ H' → Rel G ⟨m', D :: W1.ex⟩ H' st' → H' D = some (.lst vacc) → RpL G.K ⟨m', D :: W1.ex⟩ H' acc vacc → R acc st' → Q H') :
    ∃ Wn : Nat → Nat → Hp → Prop, (∃ m, Wn 0 m (upd H1 D (.lst []))) ∧ ∀ i m H, Wn i m H →
      (J.stop i H ∧ Q H) ∨ (J.go i H ∧ ∃ Nx : Hp → Prop, (∀ H', Nx H' → ∃ m', m' < m ∧ Wn (i + 1) m' H') ∧ ∀ x H', J.yld i H x H' → g.h G.K x (wipe σ vs) H' fun σ2 H2 => wipe σ2 vs = wipe σ vs ∧ tDT G E0 tt σ2 H2 fun b H3 =>
        if b = true then tD G E0 te σ2 H3 fun y H4 => ∃ acc, H4 D = some (.lst acc) ∧ acc.length < sizeLine ∧ Nx (upd H4 D (.lst (acc ++ [y]))) else Nx H3) := by
  have toR : ∀ {m' : List Addr} {H' : Hp}, Le W1 H1 ⟨m', W1.ex⟩ H' → LeR W1 H1 ⟨m', D :: W1.ex⟩ H' := fun {m' H'} l =>
    ⟨l.m, fun a o h1 h2 e => let q := l.keep a o h1 e; ⟨q.1, by simp only [List.mem_cons, not_or]; exact ⟨ne_of_none e hD, h2⟩, q.2⟩⟩
  refine ⟨fun i m H => m = xs.length - i ∧ i ≤ xs.length ∧ ∃ m' acc vacc st', Le W1 H1 ⟨m', W1.ex⟩ H ∧ Rel G ⟨m', D :: W1.ex⟩ H st' ∧ H D = some (.lst vacc) ∧ RpL G.K ⟨m', D :: W1.ex⟩ H acc vacc ∧ lcD inv g tt te (wipeD ρ vs) R (xs.drop i) acc st',
    ⟨_, rfl, Nat.zero_le _, W1.m, [], [], st1, Le.fresh hD, rel.hide hD, upd_same, RpL.nil, by simpa using w⟩, ?_⟩
  rintro i m H ⟨rfl, hi, m2, acc, vacc, st2, l2, rel2, hD2, ra2, w2⟩
  by_cases hlt : i < xs.length
  · have ed : xs.drop i = xs[i] :: xs.drop (i + 1) := List.drop_eq_getElem_cons hlt
    rw [ed] at w2
    obtain ⟨hinv, w2⟩ := w2
    obtain ⟨go, hy⟩ := (it i ⟨m2, D :: W1.ex⟩ H st2 (toR l2) rel2 hinv).2 xs[i] (by simp [hlt])
    refine .inr ⟨go, fun H' => ∃ m' acc vacc st', Le W1 H1 ⟨m', W1.ex⟩ H' ∧ Rel G ⟨m', D :: W1.ex⟩ H' st' ∧ H' D = some (.lst vacc) ∧ RpL G.K ⟨m', D :: W1.ex⟩ H' acc vacc ∧ lcD inv g tt te (wipeD ρ vs) R (xs.drop (i + 1)) acc st',
      fun H' h => ⟨xs.length - (i + 1), by omega, rfl, hlt, h⟩, fun x H3 y => ?_⟩
    obtain ⟨W3, l3, rel3, rx⟩ := hy x H3 y
    -- grown inside: the outer world grows alike
    have grow : ∀ {m3 : List Addr} {H3 : Hp} {W' : Wd} {H' : Hp}, Le W1 H1 ⟨m3, W1.ex⟩ H3 → Le ⟨m3, D :: W1.ex⟩ H3 W' H' → ∃ m', W' = ⟨m', D :: W1.ex⟩ ∧ Le W1 H1 ⟨m', W1.ex⟩ H' := by
      intro m3 H3 W' H' a b
      obtain ⟨m', ex'⟩ := W'
      have e1 : ex' = D :: W1.ex := b.ex
      subst e1
      exact ⟨m', rfl, a.trans ⟨rfl, b.m, b.keep⟩⟩
    have hDm : ∀ {m3 : List Addr} {H3 : Hp} {st : Sto}, Rel G ⟨m3, D :: W1.ex⟩ H3 st → D ∉ m3 := fun r z => r.out D z List.mem_cons_self
    obtain ⟨m3, rfl, lo3⟩ := grow l2 l3
    have hD3 : H3 D = some (.lst vacc) := (l3.keep D _ (hDm rel2) hD2).2
    have ra3 := ra2.le l3
    refine Tgt.sd g hg ((re.leR (toR lo3)).wipe vs) rx w2 fun ρ4 σ4 re4 hw w4 => ⟨hw.trans wipe_wipe, ?_⟩
    refine ⟨_, ρ4, st2, _, noX, rel3, re4, w4, ⟨fun W5 H5 b st5 l5 rel5 w5 => ?_, fun _ _ _ _ _ _ z => z.elim⟩⟩
    obtain ⟨m5, rfl, lo5⟩ := grow lo3 l5
    have hD5 : H5 D = some (.lst vacc) := (l5.keep D _ (hDm rel3) hD3).2
    have ra5 := ra3.le l5
    cases b with
    | false =>
      rw [if_neg Bool.false_ne_true] at w5 ⊢
      exact ⟨m5, acc, vacc, st5, lo5, rel5, hD5, ra5, w5⟩
    | true =>
      rw [if_pos rfl] at w5 ⊢
      refine ⟨_, ρ4, st5, _, noX, rel5, re4.le l5, w5, ⟨fun W6 H6 d v st6 l6 rel6 rv w6 => ?_, fun _ _ _ _ _ _ z => z.elim⟩⟩
      obtain ⟨m6, rfl, lo6⟩ := grow lo5 l6
      have hD6 : H6 D = some (.lst vacc) := (l6.keep D _ (hDm rel5) hD5).2
      have ra6 := ra5.le l6
      obtain ⟨rel7, l7⟩ := rel6.hidden (a := D) (o := HO.lst (vacc ++ [v])) List.mem_cons_self
      refine ⟨vacc, hD6, by rw [ra6.length]; exact w6.1, m6, acc ++ [d], vacc ++ [v], st6, ?_, rel7, upd_same, (ra6.append (.one rv)).leR l7, w6.2⟩
      refine ⟨rfl, lo6.m, fun a o h1 e => ?_⟩
      obtain ⟨q1, q2⟩ := lo6.keep a o h1 e
      exact ⟨q1, by rw [upd_ne (ne_of_none e hD)]; exact q2⟩
  · have hil : i = xs.length := by omega
    subst hil
    rw [List.drop_length] at w2
    exact .inl ⟨(it _ ⟨m2, D :: W1.ex⟩ H st2 (toR l2) rel2 w2.1).1 (Nat.le_refl _), fin m2 H acc vacc st2 l2 rel2 hD2 ra2 w2.2⟩
section
variable {G : Gm} {E : XK} {X : Cx}
theorem lc_weak {wi : MI} {g : Tgt} {tt : MT} {te : ME} {vs : List Nat} (hg : ∀ i ∈ g.sl, i ∈ vs) {σ : L2.St} {H : Hp} {Q : VK} (h : tD G E (mLc wi g tt te vs) σ H Q) : tLc (tDI G E wi) (g.h G.K) (tDT G E0 tt) (tD G E0 te) vs σ H Q := by
  obtain ⟨W, ρ, st, R, xq, rel, re, w, o⟩ := h
  refine ⟨W, ρ, st, _, xq, rel, re, w, ⟨fun W1 H1 J xs inv st1 l1 rel1 it w1 D hD => ?_, o.xq⟩⟩
  refine lc_loop rel1 (re.le l1) it hg hD w1 fun m' H' acc vacc st' l r e ra q => ?_
  refine o.rt ⟨m', W1.ex⟩ H' (.lst acc) (.ref D) st' (l1.trans l) r.show ?_ q
  simp only [Rp]
  refine ⟨D, vacc, rfl, fun z => r.out D z List.mem_cons_self, rel1.nex hD, e, ra.leR LeR.show⟩
theorem lc_weakH {wi : MI} {g : Tgt} {tt : MT} {te : ME} {vs : List Nat} (hg : ∀ i ∈ g.sl, i ∈ vs) {σ : L2.St} {H : Hp} {Q : VK} (h : tD G E (mLcH wi g tt te vs) σ H Q) : tLc (tDI G E wi) (g.h G.K) (tDT G E0 tt) (tD G E0 te) vs σ H Q := by
  obtain ⟨W, ρ, st, R, xq, rel, re, w, o⟩ := h
  refine ⟨W, ρ, st, _, xq, rel, re, w, ⟨fun W1 H1 J xs inv st1 l1 rel1 it w1 D hD => ?_, o.xq⟩⟩
  refine lc_loop rel1 (re.le l1) it hg hD w1 fun m' H' acc vacc st' l r e ra q => ?_
  obtain ⟨r2, rh⟩ := r.toH (rel1.nex hD) e ra
  have l3 : Le W1 H1 ⟨m' ++ [D], W1.ex⟩ H' := by
    obtain ⟨t, et⟩ := l.m
    refine ⟨rfl, ⟨t ++ [D], by show m' ++ [D] = _; rw [show m' = W1.m ++ t from et, List.append_assoc]⟩, fun a u h1 e1 => ?_⟩
    obtain ⟨q1, q2⟩ := l.keep a u h1 e1
    exact ⟨by simp only [List.mem_append, List.mem_singleton, not_or]; exact ⟨q1, ne_of_none e1 hD⟩, q2⟩
  exact o.rt _ H' (.hdl st'.length) (.ref D) _ (l1.trans l3) r2 rh q
/-- the block's context -/
abbrev Bk (X : Cx) (scope : Scope) (s : Shared) (H : Hp) (C : Addr) (cl : List (Str × Addr)) (fp : List Addr) : Cx := X.blk s H scope (compEnvC scope cl C X.env) fp
theorem pd_lc {elt tg iter : Expr} {ifs : List Expr} {scope : Scope} (own : List (Str × Nat)) {pos : Pos} {wi : MI} {g : Tgt} {tt : MT} {te : ME} (ok : BlkOk X.N X.env.scope scope own) (hN : X.N.Nodup) (hi : PDI G E X tg iter wi)
    (hg : ∀ (s : Shared) (H : Hp) (C : Addr) (cl : List (Str × Addr)) (fp : List Addr), PTg (Bk X scope s H C cl fp) tg g) (ht : ∀ (s : Shared) (H : Hp) (C : Addr) (cl : List (Str × Addr)) (fp : List Addr), PDTs G E0 (Bk X scope s H C cl fp) ifs tt)
    (he : ∀ (s : Shared) (H : Hp) (C : Addr) (cl : List (Str × Addr)) (fp : List Addr), PDE G E0 (Bk X scope s H C cl fp) elt te) (hsl : ∀ i ∈ g.sl, i ∈ own.map (·.2) := by decide) (hc : X.calm = true := by rfl) (hs : ∀ x, foldedSetIterable iter X.env x = pure x := by intro _; rfl) (hK : G.K = X.K := by rfl) :
    PDE G E X (.ListComp elt [⟨tg, iter, ifs, 0⟩] scope pos) (mLc wi g tt te (own.map (·.2))) :=
  PE.weak (pe_lc hc hN hi ok (fun s H C cl fp => by rw [hK]; exact hg s H C cl fp) ht he hs) fun _ _ _ h => lc_weak hsl h
theorem pd_lcH {elt tg iter : Expr} {ifs : List Expr} {scope : Scope} (own : List (Str × Nat)) {pos : Pos} {wi : MI} {g : Tgt} {tt : MT} {te : ME} (ok : BlkOk X.N X.env.scope scope own) (hN : X.N.Nodup) (hi : PDI G E X tg iter wi)
    (hg : ∀ (s : Shared) (H : Hp) (C : Addr) (cl : List (Str × Addr)) (fp : List Addr), PTg (Bk X scope s H C cl fp) tg g) (ht : ∀ (s : Shared) (H : Hp) (C : Addr) (cl : List (Str × Addr)) (fp : List Addr), PDTs G E0 (Bk X scope s H C cl fp) ifs tt)
    (he : ∀ (s : Shared) (H : Hp) (C : Addr) (cl : List (Str × Addr)) (fp : List Addr), PDE G E0 (Bk X scope s H C cl fp) elt te) (hsl : ∀ i ∈ g.sl, i ∈ own.map (·.2) := by decide) (hc : X.calm = true := by rfl) (hs : ∀ x, foldedSetIterable iter X.env x = pure x := by intro _; rfl) (hK : G.K = X.K := by rfl) :
    PDE G E X (.ListComp elt [⟨tg, iter, ifs, 0⟩] scope pos) (mLcH wi g tt te (own.map (·.2))) :=
  PE.weak (pe_lc hc hN hi ok (fun s H C cl fp => by rw [hK]; exact hg s H C cl fp) ht he hs) fun _ _ _ h => lc_weakH hsl h
theorem sd_setLc (i : Nat) {y : Str} {py : Pos} {elt tg iter : Expr} {ifs : List Expr} {scope : Scope} (own : List (Str × Nat)) {pos spos : Pos} {wi : MI} {g : Tgt} {tt : MT} {te : ME} (ok : BlkOk X.N X.env.scope scope own) (hN : X.N.Nodup) (hi : PDI G E X tg iter wi)
    (hg : ∀ (s : Shared) (H : Hp) (C : Addr) (cl : List (Str × Addr)) (fp : List Addr), PTg (Bk X scope s H C cl fp) tg g) (ht : ∀ (s : Shared) (H : Hp) (C : Addr) (cl : List (Str × Addr)) (fp : List Addr), PDTs G E0 (Bk X scope s H C cl fp) ifs tt)
    (he : ∀ (s : Shared) (H : Hp) (C : Addr) (cl : List (Str × Addr)) (fp : List Addr), PDE G E0 (Bk X scope s H C cl fp) elt te) (hsl : ∀ i ∈ g.sl, i ∈ own.map (·.2) := by decide)
    (hsw : swapsWith (.ListComp elt [⟨tg, iter, ifs, 0⟩] scope pos) (some (.Name y py)) spos.line X.env = pure true := by exact sw_true rfl rfl rfl (by decide +kernel)) (hy : X.N[i]? = some y := by rfl) (hyl : X.env.scope.names.lookup y = some .local := by rfl) (hc : X.calm = true := by rfl) (hs : ∀ x, foldedSetIterable iter X.env x = pure x := by intro _; rfl) (hK : G.K = X.K := by rfl) :
    PDS G E X (.Assign [.Name y py] (.ListComp elt [⟨tg, iter, ifs, 0⟩] scope pos) spos) (sAs (mLc wi g tt te (own.map (·.2))) (gNm i)) :=
  PS.weak (ps_setLc hc hN hy hyl hsw hi ok (fun s H C cl fp => by rw [hK]; exact hg s H C cl fp) ht he hs) fun Dn σ H ⟨W, ρ, st, e, rel, re, w, o⟩ =>
    lc_weak hsl ⟨W, ρ, st, _, e.xq, rel, re, w, ⟨fun W1 H1 d v st1 l1 rel1 rv w1 => o.nx W1 H1 _ _ st1 l1 rel1 ((re.le l1).set rv i) w1, o.xq⟩⟩
theorem sd_setLcH (i : Nat) {y : Str} {py : Pos} {elt tg iter : Expr} {ifs : List Expr} {scope : Scope} (own : List (Str × Nat)) {pos spos : Pos} {wi : MI} {g : Tgt} {tt : MT} {te : ME} (ok : BlkOk X.N X.env.scope scope own) (hN : X.N.Nodup) (hi : PDI G E X tg iter wi)
    (hg : ∀ (s : Shared) (H : Hp) (C : Addr) (cl : List (Str × Addr)) (fp : List Addr), PTg (Bk X scope s H C cl fp) tg g) (ht : ∀ (s : Shared) (H : Hp) (C : Addr) (cl : List (Str × Addr)) (fp : List Addr), PDTs G E0 (Bk X scope s H C cl fp) ifs tt)
    (he : ∀ (s : Shared) (H : Hp) (C : Addr) (cl : List (Str × Addr)) (fp : List Addr), PDE G E0 (Bk X scope s H C cl fp) elt te) (hsl : ∀ i ∈ g.sl, i ∈ own.map (·.2) := by decide)
    (hsw : swapsWith (.ListComp elt [⟨tg, iter, ifs, 0⟩] scope pos) (some (.Name y py)) spos.line X.env = pure true := by exact sw_true rfl rfl rfl (by decide +kernel)) (hy : X.N[i]? = some y := by rfl) (hyl : X.env.scope.names.lookup y = some .local := by rfl) (hc : X.calm = true := by rfl) (hs : ∀ x, foldedSetIterable iter X.env x = pure x := by intro _; rfl) (hK : G.K = X.K := by rfl) :
    PDS G E X (.Assign [.Name y py] (.ListComp elt [⟨tg, iter, ifs, 0⟩] scope pos) spos) (sAs (mLcH wi g tt te (own.map (·.2))) (gNm i)) :=
  PS.weak (ps_setLc hc hN hy hyl hsw hi ok (fun s H C cl fp => by rw [hK]; exact hg s H C cl fp) ht he hs) fun Dn σ H ⟨W, ρ, st, e, rel, re, w, o⟩ =>
    lc_weakH hsl ⟨W, ρ, st, _, e.xq, rel, re, w, ⟨fun W1 H1 d v st1 l1 rel1 rv w1 => o.nx W1 H1 _ _ st1 l1 rel1 ((re.le l1).set rv i) w1, o.xq⟩⟩
end
/-! ## a def -/
@[simp] def startD (N : List Str) (ds : List D) : DEnv := ds.map some ++ List.replicate (N.length - ds.length) none
theorem start_rp {K : PySem.W.Frag} {W : Wd} {H : Hp} {N : List Str} {ds : List D} {vs : List V} (r : RpL K W H ds vs) : RpE K W H (startD N ds) (L2.start N vs) := by
  have hl := r.length
  unfold startD L2.start
  refine ⟨by simp [hl], fun i d e => ?_⟩
  by_cases h : i < ds.length
  · rw [List.getElem?_append_left (by simpa using h), List.getElem?_map] at e
    cases q : ds[i]? with
    | none => rw [q] at e; cases e
    | some d' =>
      rw [q] at e
      cases e
      obtain ⟨v, h1, h2⟩ := r.get q
      exact ⟨v, by rw [List.getElem?_append_left (by simpa [hl] using h), List.getElem?_map, h1]; rfl, h2⟩
  · rw [List.getElem?_append_right (by simpa using h)] at e
    have := List.mem_of_getElem? e
    simp at this
theorem FnD.mk {P : Program} {w : World} {G : Gm} {mg : Str → Option Value} {base : Heap} {x qual : Str} {st : Stmt} {f : Addr} {fd : FuncData} {N ps : List Str} {k : Nat} {dsp : DSp} {b : MS} (F : Fun G.K x qual st f fd) (S : FnScope N ps (defScope st)) (len : ∀ ds st R xq, dsp ds st R xq → ds.length = ps.length)
    (der : ∀ (cdv : Value) (A : Around) (outer : List Env) (s : Shared) (H : Hp) (E : XK), Room k (A.deeper (envOfC qual (defScope st) s.heap.objs.size f cdv)) → PDSs G E (cxOf CX0 P w G.K mg base N qual (defScope st) f cdv A outer s H E).nox (defBody st) b)
    (sem : ∀ ds st R xq, dsp ds st R xq → b ⟨fun _ st' => R .non st', R, fun _ _ => False, fun _ _ => False, xq⟩ (startD N ds) st) : FnD P w G mg base CX0 (k + 1) f fd ps dsp := by
  unfold FnD
  refine F.ok S (fun vs H Q E h => ?_) (fun cdv A outer s H vs Q E hr h => ⟨_, der cdv A outer s H E hr, ?_⟩)
  · obtain ⟨W, ds, st, R, xq, rel, rl, hsp, o⟩ := h
    rw [rl.length]; exact len ds st R xq hsp
  · obtain ⟨W, ds, st, R, xq, rel, rl, hsp, o⟩ := h
    exact ⟨W, startD N ds, st, _, rel, start_rp rl, sem ds st R xq hsp, ⟨fun W1 H1 ρ1 σ1 st1 l1 rel1 re1 w1 => o.rt W1 H1 .non .non st1 l1 rel1 rfl w1, fun _ _ _ _ _ _ _ _ z => z.elim, fun _ _ _ _ _ _ _ _ z => z.elim, o.rt, o.xq⟩⟩
end DL

set_option Elab.async false
set_option linter.all false
set_option maxRecDepth 100000
set_option autoImplicit false
namespace DL
open PySem PySem.Spec PyProof.Rows L2

/-! ## == of data -/
mutual
def pyD : D → Option PyData
  | .non => some .none
  | .bl b => some (.bool b)
  | .int i => some (.int i)
  | .str x => some (.str x)
  | .lst xs => (pyDs xs).map .list
  | .scr xs => (pyDs xs).map .list
  | .tup xs => (pyDs xs).map .tuple
  | .hdl _ => none
  | .raw _ => none
  | .exc _ => none
def pyDs : List D → Option (List PyData)
  | [] => some []
  | d :: ds => match pyD d, pyDs ds with | some p, some ps => some (p :: ps) | _, _ => none
end
/-- handles as their lists, n deep -/
def res : Nat → Sto → D → D
  | 0, _, d => d
  | n + 1, st, d => match dr st d with
    | .lst xs => .lst (xs.map (res n st))
    | .tup xs => .tup (xs.map (res n st))
    | d => d
section
variable {G : Gm} {W : Wd} {H : Hp} {st : Sto}
mutual
theorem pyD_dp : ∀ {d : D} {v : V} {p : PyData}, Rp G.K W H d v → pyD d = some p → Dp G.K H v p
  | .non, _, _, h, e => by simp only [pyD] at e; cases e; simp only [Rp] at h; subst h; exact .non
  | .bl b, _, _, h, e => by simp only [pyD] at e; cases e; simp only [Rp] at h; subst h; exact .bl b
  | .int b, _, _, h, e => by simp only [pyD] at e; cases e; simp only [Rp] at h; subst h; exact .int b
  | .str b, _, _, h, e => by simp only [pyD] at e; cases e; simp only [Rp] at h; subst h; exact .str b
  | .lst xs, _, _, h, e => by
    simp only [pyD, Option.map_eq_some_iff] at e
    obtain ⟨ps, e1, rfl⟩ := e
    simp only [Rp] at h
    obtain ⟨a, vs, rfl, _, _, h3, h4⟩ := h
    exact .lst (SqL.of h3) (pyDs_dp h4 e1)
  | .scr xs, _, _, h, e => by
    simp only [pyD, Option.map_eq_some_iff] at e
    obtain ⟨ps, e1, rfl⟩ := e
    simp only [Rp] at h
    obtain ⟨a, vs, rfl, h3, h4⟩ := h
    exact .lst h3.sq (pyDs_dp h4 e1)
  | .tup xs, _, _, h, e => by
    simp only [pyD, Option.map_eq_some_iff] at e
    obtain ⟨ps, e1, rfl⟩ := e
    simp only [Rp] at h
    obtain ⟨a, vs, rfl, h3, h4⟩ := h
    exact .tup h3.sq (pyDs_dp h4 e1)
  | .hdl _, _, _, _, e => by simp [pyD] at e
  | .raw _, _, _, _, e => by simp [pyD] at e
  | .exc _, _, _, _, e => by simp [pyD] at e
theorem pyDs_dp : ∀ {ds : List D} {vs : List V} {ps : List PyData}, RpL G.K W H ds vs → pyDs ds = some ps → DpAll G.K H vs ps
  | [], _, _, h, e => by simp only [pyDs] at e; cases e; simp only [RpL] at h; subst h; exact .nil
  | d :: ds, _, _, h, e => by
    simp only [RpL] at h
    obtain ⟨v, r, rfl, h1, h2⟩ := h
    simp only [pyDs] at e
    split at e
    · rename_i p ps e1 e2
      cases e
      exact .cons (pyD_dp h1 e1) (pyDs_dp h2 e2)
    · cases e
end
theorem res_dp (rel : Rel G W H st) : ∀ (n : Nat) {d : D} {v : V} {p : PyData}, Rp G.K W H d v → pyD (res n st d) = some p → Dp G.K H v p
  | 0, _, _, _, h, e => pyD_dp h e
  | n + 1, d, v, p, h, e => by
    have all : ∀ {ds : List D} {vs : List V} {ps : List PyData}, RpL G.K W H ds vs → pyDs (ds.map (res n st)) = some ps → DpAll G.K H vs ps := by
      intro ds
      induction ds with
      | nil => intro vs ps h e; simp only [List.map_nil, pyDs] at e; cases e; simp only [RpL] at h; subst h; exact .nil
      | cons d ds ih =>
        intro vs ps h e
        simp only [RpL] at h
        obtain ⟨v, r, rfl, h1, h2⟩ := h
        simp only [List.map_cons, pyDs] at e
        split at e
        · rename_i p ps e1 e2
          cases e
          exact .cons (res_dp rel n h1 e1) (ih h2 e2)
        · cases e
    simp only [res] at e
    split at e
    · rename_i xs q
      obtain ⟨a, vs, rfl, h2, h3⟩ := dr_lst rel h q
      simp only [pyD, Option.map_eq_some_iff] at e
      obtain ⟨ps, e1, rfl⟩ := e
      exact .lst (SqL.of h2) (all h3 e1)
    · rename_i xs q
      obtain rfl := dr_tup q
      obtain ⟨a, vs, rfl, h2, h3⟩ := tup_sq h
      simp only [pyD, Option.map_eq_some_iff] at e
      obtain ⟨ps, e1, rfl⟩ := e
      exact .tup h2 (all h3 e1)
    · rename_i q1 q2
      have : dr st d = d := by
        unfold dr
        split
        · split
          · rename_i k _ xs q
            exact absurd (show dr st (.hdl k) = .lst xs from dr_hdl q) (fun z => q1 xs (by assumption))
          · rfl
        · rfl
      rw [this] at e
      exact pyD_dp h e
end
@[simp] def xorB (neg b : Bool) : Bool := if neg then !b else b
@[simp] def dEQ (neg : Bool) : D2 := fun x y st R => match x, y with
  | .int i, .int j => R (.bl (xorB neg (decide (i = j)))) st
  | .bl i, .bl j => R (.bl (xorB neg (decide (i = j)))) st
  | .str i, .str j => R (.bl (xorB neg (decide (i = j)))) st
  | x, y => ∃ n p q, pyD (res n st x) = some p ∧ pyD (res n st y) = some q ∧ SeqAt.shaped p = true ∧ SeqAt.shaped q = true ∧ R (.bl (xorB neg (PyData.eqv p q))) st
section
variable {G : Gm} {E : XK} {X : Cx}
def rEQ (K : PySem.W.Frag) : R2 := fun x y H Q => rEq x y H Q ∨ rEqD K x y H Q
def rNE (K : PySem.W.Frag) : R2 := fun x y H Q => rNe x y H Q ∨ rNeD K x y H Q
theorem op_EQ (hu : X.A.units + 64 < cLine) : OpR X (compareOp .Eq) (rEQ X.K) := op_eq.or (op_eqD hu)
theorem op_NE (hu : X.A.units + 64 < cLine) : OpR X (compareOp .NotEq) (rNE X.K) := op_ne.or (op_neD hu)
theorem dec_V {a b : Int} : decide (V.int a = V.int b) = decide (a = b) := by simp
theorem od_eq (hK : G.K = X.K) : OpD G (rEQ X.K) (dEQ false) := by
  intro E W H st dx dy x y R xq Q rel rx ry w o
  rw [← hK]
  unfold dEQ at w
  split at w
  · simp only [Rp] at rx ry; subst rx; subst ry
    refine .inl ⟨rfl, ?_⟩
    have := o.rt W H (.bl _) _ st Le.refl rel rfl w
    simpa [xorB] using this
  · simp only [Rp] at rx ry; subst rx; subst ry
    refine .inl ⟨rfl, ?_⟩
    have := o.rt W H (.bl _) _ st Le.refl rel rfl w
    simpa [xorB] using this
  · simp only [Rp] at rx ry; subst rx; subst ry
    refine .inl ⟨rfl, ?_⟩
    have := o.rt W H (.bl _) _ st Le.refl rel rfl w
    simpa [xorB] using this
  · obtain ⟨n, p, q, h1, h2, h3, h4, w⟩ := w
    exact .inr ⟨p, q, res_dp rel n rx h1, res_dp rel n ry h2, h3, h4, o.rt W H (.bl _) _ st Le.refl rel rfl w⟩
theorem od_ne (hK : G.K = X.K) : OpD G (rNE X.K) (dEQ true) := by
  intro E W H st dx dy x y R xq Q rel rx ry w o
  rw [← hK]
  unfold dEQ at w
  split at w
  · simp only [Rp] at rx ry; subst rx; subst ry
    refine .inl ⟨rfl, ?_⟩
    have := o.rt W H (.bl _) _ st Le.refl rel rfl w
    simpa [xorB] using this
  · simp only [Rp] at rx ry; subst rx; subst ry
    refine .inl ⟨rfl, ?_⟩
    have := o.rt W H (.bl _) _ st Le.refl rel rfl w
    simpa [xorB] using this
  · simp only [Rp] at rx ry; subst rx; subst ry
    refine .inl ⟨rfl, ?_⟩
    have := o.rt W H (.bl _) _ st Le.refl rel rfl w
    simpa [xorB] using this
  · obtain ⟨n, p, q, h1, h2, h3, h4, w⟩ := w
    exact .inr ⟨p, q, res_dp rel n rx h1, res_dp rel n ry h2, h3, h4, o.rt W H (.bl _) _ st Le.refl rel rfl w⟩
variable {a b : Expr} {wa wb : ME} {pos : Pos}
theorem pd_eq (hu : X.A.units + 64 < cLine) (ha : PDE G E X a wa) (hb : PDE G E X b wb) (hK : G.K = X.K := by rfl) : PDE G E X (.Compare a [.Eq] [b] pos) (mOp (dEQ false) wa wb) := pd_cmp (op_EQ hu) (od_eq hK) ha hb (nomark _)
theorem pt_eq (hu : X.A.units + 64 < cLine) (ha : PDE G E X a wa) (hb : PDE G E X b wb) (hK : G.K = X.K := by rfl) : PDT G E X (.Compare a [.Eq] [b] pos) (mTest (mOp (dEQ false) wa wb)) := pt_cmp (op_EQ hu) (od_eq hK) ha hb (nomark _)
theorem pd_ne (hu : X.A.units + 64 < cLine) (ha : PDE G E X a wa) (hb : PDE G E X b wb) (hK : G.K = X.K := by rfl) : PDE G E X (.Compare a [.NotEq] [b] pos) (mOp (dEQ true) wa wb) := pd_cmp (op_NE hu) (od_ne hK) ha hb (nomark _)
theorem pt_ne (hu : X.A.units + 64 < cLine) (ha : PDE G E X a wa) (hb : PDE G E X b wb) (hK : G.K = X.K := by rfl) : PDT G E X (.Compare a [.NotEq] [b] pos) (mTest (mOp (dEQ true) wa wb)) := pt_cmp (op_NE hu) (od_ne hK) ha hb (nomark _)

/-! ## handles made by + and slices -/
@[simp] def dAddH : D2 := fun x y st R => match dr st x, dr st y with
  | .lst a, .lst b => a.length + b.length ≤ sizeLine ∧ R (.hdl st.length) (st ++ [.lst (a ++ b)])
  | _, _ => False
theorem od_addH : OpD G rADD dAddH := by
  intro E W H st dx dy x y R xq Q rel rx ry w o
  unfold dAddH at w
  split at w
  · rename_i a b e1 e2
    obtain ⟨p, vs, h1, h2, h3⟩ := dr_lst rel rx e1
    obtain ⟨q, us, h4, h5, h6⟩ := dr_lst rel ry e2
    refine .inr (.inr ⟨p, q, vs, us, h1, h4, h2, h5, ?_, fun l hl => ?_⟩)
    · rw [h3.length, h6.length]; exact w.1
    · exact o.rt _ _ (.hdl st.length) _ _ (Le.new hl) (newHL rel hl (h3.append h6)).1 (newHL rel hl (h3.append h6)).2 w.2
  · cases w
@[simp] def dSlH (x : D) (lo hi : Option Int) (st : Sto) (R : DQ) : Prop := match dr st x with
  | .lst xs => R (.hdl st.length) (st ++ [.lst (cutD xs lo hi)])
  | _ => False
@[simp] def mSlH (we : ME) (wl wh : MO) : ME := fun ρ st R xq => we ρ st (fun x st1 => wl ρ st1 (fun lo st2 => wh ρ st2 (fun hi st3 => dSlH x lo hi st3 R) xq) xq) xq
theorem pd_slH {e : Expr} {lo hi : Option Expr} {we : ME} {wl wh : MO} {pos p2 : Pos} (he : PDE G E X e we) (hl : PDO G E X lo wl) (hh : PDO G E X hi wh) (hK : G.K = X.K := by rfl) : PDE G E X (.Subscript e (.Slice lo hi none p2) pos) (mSlH we wl wh) :=
  PE.weak (pe_slice sl_SL he hl hh) fun σ H Q ⟨W, ρ, st, R, xq, rel, re, w, o⟩ =>
  ⟨W, ρ, st, _, xq, rel, re, w, ⟨fun W1 H1 d v st1 l1 rel1 rv w1 =>
    ⟨W1, ρ, st1, _, xq, rel1, re.le l1, w1, ⟨fun W2 H2 lo st2 l2 rel2 w2 =>
      ⟨W2, ρ, st2, _, xq, rel2, re.le (l1.trans l2), w2, ⟨fun W3 H3 hi st3 l3 rel3 w3 => by
        have rv3 := rv.le (l2.trans l3)
        have o3 := o.le (l1.trans (l2.trans l3))
        rw [← hK]
        unfold dSlH at w3
        split at w3
        · rename_i xs e
          obtain ⟨p, vs, h1, h2, h3⟩ := dr_lst rel3 rv3 e
          exact .inl ⟨p, vs, h1, SqL.of h2, fun q hq => o3.rt _ _ (.hdl st3.length) _ _ (Le.new hq) (newHL rel3 hq (cut_rp h3 lo hi)).1 (newHL rel3 hq (cut_rp h3 lo hi)).2 w3⟩
        · exact w3.elim, (o.le (l1.trans l2)).xq⟩⟩, (o.le l1).xq⟩⟩, o.xq⟩⟩
/-! ## xs[::c], c 1 or -1 -/
def rStep (K : PySem.W.Frag) : V → V → Hp → VK → Prop := fun x y H Q => ∃ a xs, x = .ref a ∧ SqL K H a xs ∧ ((y = .int 1 ∧ ∀ p, H p = none → Q (.ref p) (upd H p (.lst xs))) ∨ (y = .int (-1) ∧ ∀ p, H p = none → Q (.ref p) (upd H p (.lst xs.reverse))))
def tStep (K : PySem.W.Frag) (te ts : TE) : TE := fun σ H Q => te σ H fun x H1 => ts σ H1 fun y H2 => rStep K x y H2 Q
theorem pick_one (its : List Value) : slicePick its.toArray none none (some 1) = its.toArray := by
  have e : slicePick its.toArray none none (some 1) = slicePick its.toArray none none none := rfl
  rw [e, slicePick_cut]
  simp [HT.sIx]
theorem pe_step {e c : Expr} {te ts : TE} {p3 pos : Pos} (he : PE X e te) (hc : PE X c ts)
    (hsub : ∀ o i, subscripted (.Slice none none (some c) p3) false o i = operate [o, i] (getItem o i)) : PE X (.Subscript e (.Slice none none (some c) p3) pos) (tStep X.K te ts) := by
  refine ⟨fun pins s σ H Q I h => ?_⟩
  refine Subscript_ (thn (he.run pins s σ H _ I h) fun v s1 ⟨x, H1, I1, r1, q1⟩ => ?_)
  refine wpAny_Slice (thn (po_none.run pins s1 σ H1 (fun o H2 => o = none ∧ H2 = H1) I1 ⟨rfl, rfl⟩) fun vl s2 ⟨l, H2, I2, pl, el, e2⟩ => ?_)
  subst el e2
  refine thn (po_none.run pins s2 σ H2 (fun o H3 => o = none ∧ H3 = H2) I2 ⟨rfl, rfl⟩) fun vu s3 ⟨u, H3, I3, pu, eu, e3⟩ => ?_
  subst eu e3
  rw [evalPart_some]
  refine thn (hc.run pins s3 σ H3 _ I3 q1) fun vs s4 ⟨y, H4, I4, ry, q4⟩ => ?_
  obtain ⟨a, xs, rfl, hx, q4⟩ := q4
  cases (show v = Value.ref a from r1)
  have I5 : Inv X pins σ H4 { s4 with heap := s4.heap.push { cls := .type "slice", data := .fields #[vl, vu, vs] } } := I4.kept (t' := s4.toks) fun b ob q => Heap.get?_push_of_some _ q
  obtain ⟨its, r, ht, hz⟩ := I5.list hx
  have hlen := r.length
  show wpAny (model X.prog X.w) X.A (subscriptTail e (.Slice none none (some c) p3) (.ref a) (.ref s4.heap.objs.size)) (EP X pins σ Q) X.xe { s4 with heap := s4.heap.push { cls := .type "slice", data := .fields #[vl, vu, vs] } }
  refine tail_any (ops := [.ref a, .ref s4.heap.objs.size]) ht.isList.typeIs (PySem.slot_list_getitem.lookup) ?_ (hsub _ _)
  rcases q4 with ⟨rfl, q4⟩ | ⟨rfl, q4⟩
  · obtain ⟨t, rfl⟩ := (show ∃ t, vs = Value.int 1 t from ry)
    refine wpAny_getItem_list_slice ht.isList (Heap.IsSliceOf.new _ vl vu (.int 1 t)) pl pu (.int 1 t) (by decide) ?_ (by rw [List.size_toArray]; omega)
    rw [pick_one]
    refine ⟨.ref _, _, I5.laid (t' := s4.toks) (o := .lst xs) (fun b ob q => Heap.get?_push_of_some _ q) (Nat.le_refl _) ?_, rfl, q4 _ (I5.hok.fresh (Nat.le_refl _))⟩
    exact ⟨hz, _, 0, r, Heap.get?_push_size _ rfl⟩
  · obtain ⟨t, rfl⟩ := (show ∃ t, vs = Value.int (-1) t from ry)
    refine wpAny_getItem_list_slice ht.isList (Heap.IsSliceOf.new _ vl vu (.int (-1) t)) pl pu (.int (-1) t) (by decide) ?_ (by rw [List.size_toArray]; omega)
    rw [PySem.W.krv_pick]
    refine ⟨.ref _, _, I5.laid (t' := s4.toks) (o := .lst xs.reverse) (fun b ob q => Heap.get?_push_of_some _ q) (Nat.le_refl _) ?_, rfl, q4 _ (I5.hok.fresh (Nat.le_refl _))⟩
    exact ⟨by rw [List.length_reverse]; exact hz, _, 0, r.reverse, Heap.get?_push_size _ rfl⟩
@[simp] def dStep (x y : D) (st : Sto) (R : DQ) : Prop := match dr st x, y with
  | .lst xs, .int c => (c = 1 ∧ R (.lst xs) st) ∨ (c = -1 ∧ R (.lst xs.reverse) st)
  | _, _ => False
@[simp] def mSlStep (we wc : ME) : ME := mOp dStep we wc
theorem pd_slStep {e c : Expr} {we wc : ME} {p3 pos : Pos} (he : PDE G E X e we) (hc : PDE G E X c wc) (hsub : ∀ o i, subscripted (.Slice none none (some c) p3) false o i = operate [o, i] (getItem o i) := by intro _ _; with_unfolding_all rfl) (hK : G.K = X.K := by rfl) : PDE G E X (.Subscript e (.Slice none none (some c) p3) pos) (mSlStep we wc) :=
  PE.weak (pe_step he hc hsub) fun σ H Q h => by
    refine op_lift (r := rStep X.K) ?_ h
    intro E W H st dx dy x y R xq Q rel rx ry w o
    rw [← hK]
    unfold dStep at w
    split at w
    · rename_i xs i e
      obtain ⟨a, vs, rfl, h2, h3⟩ := dr_lst rel rx e
      refine ⟨a, vs, rfl, SqL.of h2, ?_⟩
      rcases w with ⟨rfl, w⟩ | ⟨rfl, w⟩
      · exact .inl ⟨ry, fun p hp => o.rt W _ (.lst xs) _ st (Le.fresh hp) (rel.fresh hp) (newL rel hp h3) w⟩
      · exact .inr ⟨ry, fun p hp => o.rt W _ (.lst xs.reverse) _ st (Le.fresh hp) (rel.fresh hp) (newL rel hp h3.reverse) w⟩
    · cases w
/-! ## range(a, b, -1) -/
theorem mi_r3n {tg a b c : Expr} {w : MA} {p pos : Pos} (hm : X.mg "range" = none) (ha : PDA G E X [a, b, c] w) (hg : Gl X "range" := by rfl)
    (hs : starEach [a, b, c] X.env = (false, eval a X.env) :: starEach [b, c] X.env := by rfl) (hpl : (backTo pos (starEach [b, c] X.env)).any (·.1) = false := by rfl) :
    PDI G E X tg (.Call (.Name "range" p) [a, b, c] [] pos) (miR3n w) :=
  PI.weak (pi_range3 hg hm ha hs hpl) fun σ H Q ⟨W, ρ, st, R, xq, rel, re, w, o⟩ =>
    ⟨W, ρ, st, _, xq, rel, re, w, ⟨fun W1 H1 ds vs st1 l1 rel1 rv w1 => by
      split at w1
      · simp only [RpL] at rv
        obtain ⟨v1, r1, rfl, h1, v2, r2, rfl, h2, v3, r3, rfl, h3, rfl⟩ := rv
        obtain rfl : v1 = V.int _ := h1
        obtain rfl : v2 = V.int _ := h2
        obtain rfl : v3 = V.int _ := h3
        obtain ⟨rfl, ⟨b1, b2, b3, b4⟩, w1⟩ := w1
        exact ⟨_, _, _, _, rfl, RgC.neg b1 b2 b3 b4, o.rt W1 H1 _ _ _ st1 l1 rel1 (it_rngn _ _) w1⟩
      · exact w1.elim, o.xq⟩⟩
/-! ## isinstance by built-in types -/
@[simp] def tyD (st : Sto) : D → Option String
  | .non => some "NoneType" | .bl _ => some "bool" | .int _ => some "int" | .str _ => some "str"
  | .lst _ => some "list" | .scr _ => some "list" | .tup _ => some "tuple"
  | .hdl k => match st[k]? with | some (.lst _) => some "list" | some (.dK _) => some "dict" | _ => none
  | .raw _ => none
  | .exc _ => none
@[simp] def dIsi : D1 := fun ds st R => match ds with
  | [x, .raw (.ty c)] => ∃ t b, tyD st x = some t ∧ kitB t c = some b ∧ R (.bl b) st
  | _ => False
theorem call_ISI : CallR X (.builtin "isinstance") (rIsi X.K) := call_isi
theorem sqT_ty {K : PySem.W.Frag} {H : Hp} {a : Addr} {vs : List V} (h : SqT K H a vs) : TyX K H (.ref a) (.type "tuple") := by
  rcases h with (h | ⟨o, h⟩) | ⟨o, its, n, h1, h2, _⟩
  · exact .base (.tup h)
  · exact .fTuple h
  · exact .kTuple h1 h2
theorem sqL_ty {K : PySem.W.Frag} {H : Hp} {a : Addr} {vs : List V} (h : SqL K H a vs) : TyX K H (.ref a) (.type "list") := by
  rcases h with (h | ⟨o, h⟩) | ⟨o, its, n, h1, h2, _⟩
  · exact .base (.lst h)
  · exact .base (.frz h)
  · exact .kList h1 h2
theorem tyD_x {W : Wd} {H : Hp} {st : Sto} {d : D} {v : V} {t : String} (rel : Rel G W H st) (rv : Rp G.K W H d v) (e : tyD st d = some t) : TyX G.K H v (.type t) := by
  cases d with
  | non => simp only [tyD] at e; cases e; simp only [Rp] at rv; subst rv; exact .base .non
  | bl b => simp only [tyD] at e; cases e; simp only [Rp] at rv; subst rv; exact .base (.bl b)
  | int b => simp only [tyD] at e; cases e; simp only [Rp] at rv; subst rv; exact .base (.int b)
  | str b => simp only [tyD] at e; cases e; simp only [Rp] at rv; subst rv; exact .base (.str b)
  | lst xs =>
    simp only [tyD] at e; cases e
    simp only [Rp] at rv
    obtain ⟨a, vs, rfl, _, _, h3, _⟩ := rv
    exact .base (.lst h3)
  | scr xs =>
    simp only [tyD] at e; cases e
    obtain ⟨a, vs, rfl, h3, _⟩ := scr_sq rv
    exact sqL_ty h3
  | tup xs =>
    simp only [tyD] at e; cases e
    obtain ⟨a, vs, rfl, h3, _⟩ := tup_sq rv
    exact sqT_ty h3
  | hdl k =>
    simp only [Rp] at rv
    obtain ⟨a, h1, rfl⟩ := rv
    simp only [tyD] at e
    split at e
    · rename_i xs q
      cases e
      obtain ⟨b, h2, vs, h3, _⟩ := rel.cell _ _ q
      rw [h1] at h2; cases h2
      exact .base (.lst h3)
    · rename_i xs q
      cases e
      obtain ⟨b, h2, vs, h3, _⟩ := rel.cell _ _ q
      rw [h1] at h2; cases h2
      exact .base (.dK h3)
    · cases e
  | raw u => simp [tyD] at e
  | exc u => simp [tyD] at e
theorem cd_isi (hK : G.K = X.K) : CaD G (rIsi X.K) dIsi := by
  intro E W H st ds vs R xq Q rel rs w o
  rw [← hK]
  unfold dIsi at w
  split at w
  · rename_i x c
    obtain ⟨t, b, h1, h2, w⟩ := w
    obtain ⟨v, u, rfl, rv, ru⟩ := rpl2 rs
    obtain rfl : u = V.ty c := ru
    exact ⟨v, .ty c, .type t, .type c, b, rfl, .ty c, tyD_x rel rv h1, kit_ty h2, o.rt W H (.bl b) _ st Le.refl rel rfl w⟩
  · cases w
theorem pd_ty {x : Str} {n : String} {pos : Pos} (hm : X.mg x = none) (hv : bootBuiltins x = some (.type n)) (hg : Gl X x := by rfl) (hn : x ≠ "__name__" := by decide) (hd : (x == ("__debug__" : Str)) = false := by decide) : PDE G E X (.Name x pos) (mC (.raw (.ty n))) :=
  pd_c (pe_bltn hg hm hv (v := .ty n) rfl hn hd) fun _ _ => rfl
/-! ## len(set(xs)) of numbers -/
theorem len_firstMet (ns : List Int) : True := trivial
def setLen (ns : List Int) : Nat := (PyProof.Rows.firstMet (fun i => ns.getD i 0) ns.length).length
def tLenSetJ (K : PySem.W.Frag) (ta : TE) : TE := fun σ H Q => ta σ H fun x H1 => ∃ (l : Addr) (ns : List Int), x = .ref l ∧ SqL K H1 l (ns.map V.int) ∧ ns.length ≤ 4000 ∧ Q (.int (setLen ns : Nat)) H1
theorem pe_lenSetJ {a : Expr} {ta : TE} {p p2 q pos : Pos} (hg : Gl X "len") (hm : X.mg "len" = none) (hg2 : Gl X "set") (hm2 : X.mg "set" = none) (ha : PE X a ta) (hc : X.calm = true)
    (na : starEach [a] X.env = (false, eval a X.env) :: starEach [] X.env) : PE X (.Call (.Name "len" p) [.Call (.Name "set" p2) [a] [] q] [] pos) (tLenSetJ X.K ta) := by
  refine ⟨fun pins s σ H Q I h => ?_⟩
  refine Call_ (ld_blt I hg hm boot_len ?_)
  refine PyProof.Rows.callWith_builtin1 (PyProof.Rows.args_cons ?_ rfl) rfl rfl
  refine Call_ (ld_blt I hg2 hm2 boot_set ?_)
  refine PyProof.Rows.callWith_type1 (PyProof.Rows.args_cons (thn (ha.run pins s σ H _ I h) fun v s1 ⟨x, H1, I1, r1, q1⟩ => PyProof.Rows.args_nil ?_) na) na rfl
  obtain ⟨l, ns, rfl, hq, hl, q1⟩ := q1
  cases r1
  obtain ⟨its, r, pl, hz⟩ := I1.list hq
  have hlen : its.toArray.size = ns.length := by rw [List.size_toArray, ← r.length, List.length_map]
  refine call_set_list (I1.ok.hd hc) pl.isList (ns := ns) (by simpa using r.ints) (by rw [hlen]; unfold scanBound; omega) fun h' tk hS hk => ?_
  refine PyProof.Rows.args_nil ?_
  rw [hlen] at hS
  obtain ⟨o, es, ep, t, ho, hex, hd, _, _, _, hf, hn⟩ := hS
  have I2 : Inv X pins σ H1 { s1 with heap := h', toks := tk } := I1.kept fun b o e => hk b o (Heap.lt_size e) e
  have hle : (PyProof.Rows.firstMet (fun i => ns.getD i 0) ns.length).length ≤ ns.length := by
    have : ∀ i, (PyProof.Rows.firstMet (fun i => ns.getD i 0) i).length ≤ i := by
      intro i
      induction i with
      | zero => exact Nat.le_refl _
      | succ i ih =>
        rw [PyProof.Rows.firstMet_succ]
        unfold PyProof.Rows.step_dedup
        split
        · omega
        · simp only [List.length_append, List.length_singleton]; omega
    exact this _
  exact call_len_set ho hex hd hf (by rw [hn] <;> omega) ⟨.int (setLen ns : Nat), H1, I2.tok _, ⟨_, by rw [hn]; rfl⟩, q1⟩
@[simp] def mLenSet (w : ME) : ME := fun ρ st R xq => w ρ st (fun d st1 => onL st1 d fun xs => ∃ ns, allI xs = some ns ∧ ns.length ≤ 4000 ∧ R (.int (setLen ns : Nat)) st1) xq
theorem pd_lenSet {a : Expr} {w : ME} {p p2 q pos : Pos} (hm : X.mg "len" = none) (hm2 : X.mg "set" = none) (ha : PDE G E X a w) (hg : Gl X "len" := by rfl) (hg2 : Gl X "set" := by rfl) (hc : X.calm = true := by rfl) (na : starEach [a] X.env = (false, eval a X.env) :: starEach [] X.env := by rfl) (hK : G.K = X.K := by rfl) :
    PDE G E X (.Call (.Name "len" p) [.Call (.Name "set" p2) [a] [] q] [] pos) (mLenSet w) :=
  PE.weak (pe_lenSetJ hg hm hg2 hm2 ha hc na) fun σ H Q ⟨W, ρ, st, R, xq, rel, re, w, o⟩ =>
    ⟨W, ρ, st, _, xq, rel, re, w, ⟨fun W1 H1 d v st1 l1 rel1 rv w1 => by
      obtain ⟨a, vs, xs, rfl, h1, h2, ns, e, h3, w1⟩ := onL_of rel1 rv w1
      rw [← hK]
      exact ⟨a, ns, rfl, by rw [← allI_rp h2 e]; exact h1, h3, o.rt W1 H1 (.int _) _ st1 l1 rel1 rfl w1⟩, o.xq⟩⟩
end
/-! ## calls, in short -/
structure Cal (P : Program) (w : World) (G : Gm) (mg : Str → Option Value) (base : Heap) (k : Nat) (x : Str) (dsp : DSp) : Prop where
  ex : ∃ f fd ps, FnD P w G mg base CX0 k f fd ps dsp ∧ mg x = some (.ref f) ∧ PySem.W.keepIn G.K (.ref f) = true ∧ Binds G.K fd ps []
structure CalM (P : Program) (w : World) (G : Gm) (mg : Str → Option Value) (base : Heap) (k : Nat) (C : Addr) (N : List Str) (m : Str) (dsp : DSp) : Prop where
  cls : ClsD G C N
  no : m ∉ N
  ex : ∃ f fd ps, FnD P w G mg base CX0 k f fd ps dsp ∧ Meth G.K C m f ∧ Binds G.K fd ps []
structure CalI (P : Program) (w : World) (G : Gm) (mg : Str → Option Value) (base : Heap) (k : Nat) (C : Addr) (x : Str) (dsp : DSp) : Prop where
  ex : ∃ f fd ps, FnD P w G mg base CX0 k f fd ps dsp ∧ Mk G.K C f ∧ mg x = some (.ref C) ∧ Binds G.K fd ps []
section
variable {G : Gm} {E : XK} {X : Cx} {k : Nat} {dsp : DSp}
theorem pd_callC {x : Str} {p pos : Pos} {e : Expr} {es : List Expr} {w : MA} (C : Cal X.prog X.w G X.mg X.base k x dsp) (hr : Room k X.A) (ha : PDA G E X (e :: es) w) (hg : Gl X x := by rfl) (hdb : (x == ("__debug__" : Str)) = false := by decide +kernel) (he : starEach (e :: es) X.env = (false, eval e X.env) :: starEach es X.env := by rfl) (hpl : (backTo pos (starEach es X.env)).any (·.1) = false := by rfl) (hK : G.K = X.K := by rfl) :
    PDE G E X (.Call (.Name x p) (e :: es) [] pos) (mCall dsp w) := by
  obtain ⟨f, fd, ps, F, hm, hk, hb⟩ := C.ex
  exact pd_call F hm hk hb passA hr ha hg hdb he hpl hK
theorem pd_call0C {x : Str} {p pos : Pos} (C : Cal X.prog X.w G X.mg X.base k x dsp) (hr : Room k X.A) (hg : Gl X x := by rfl) (hdb : (x == ("__debug__" : Str)) = false := by decide +kernel) (hK : G.K = X.K := by rfl) :
    PDE G E X (.Call (.Name x p) [] [] pos) (mCall dsp maNil) := by
  obtain ⟨f, fd, ps, F, hm, hk, hb⟩ := C.ex
  exact pd_call0 F hm hk hb passA hr hg hdb hK
theorem pd_methC {C : Addr} {N : List Str} {m : Str} {o e : Expr} {es : List Expr} {we : ME} {wa : MA} {pos apos : Pos} {pl : Sem Bool} (c : CalM X.prog X.w G X.mg X.base k C N m dsp) (hr : Room k X.A) (ho : PDE G E X o we) (ha : PDA G E X (e :: es) wa)
    (hst : starEach (e :: es) X.env = (false, eval e X.env) :: starEach es X.env := by rfl) (hpl : (backTo pos (starEach es X.env)).any (·.1) = false := by rfl)
    (ht : eval (.Call (.Attribute o m apos) (e :: es) [] pos) X.env = (do
      let ov ← eval o X.env
      standAt apos.atName
      let (f, first) ← holding [ov] (getMethod ov m pl)
      callWith pos f first (backTo pos (starEach (e :: es) X.env)) (backToKw pos (keywordEach [] X.env))) := by rfl) (hK : G.K = X.K := by rfl) :
    PDE G E X (.Call (.Attribute o m apos) (e :: es) [] pos) (mMeth C dsp we wa) := by
  obtain ⟨f, fd, ps, F, hm, hb⟩ := c.ex
  exact pd_meth (pl := pl) c.cls c.no hm F hb passA hr ho ha hst hpl ht hK
theorem pd_meth0C {C : Addr} {N : List Str} {m : Str} {o : Expr} {we : ME} {pos apos : Pos} {pl : Sem Bool} (c : CalM X.prog X.w G X.mg X.base k C N m dsp) (hr : Room k X.A) (ho : PDE G E X o we)
    (ht : eval (.Call (.Attribute o m apos) [] [] pos) X.env = (do
      let ov ← eval o X.env
      standAt apos.atName
      let (f, first) ← holding [ov] (getMethod ov m pl)
      callWith pos f first (backTo pos (starEach [] X.env)) (backToKw pos (keywordEach [] X.env))) := by rfl) (hK : G.K = X.K := by rfl) :
    PDE G E X (.Call (.Attribute o m apos) [] [] pos) (mMeth0 C dsp we) := by
  obtain ⟨f, fd, ps, F, hm, hb⟩ := c.ex
  exact pd_meth0 (pl := pl) c.cls c.no hm F hb passA hr ho ht hK
theorem pd_makeC {C : Addr} {x : Str} {p pos : Pos} {e : Expr} {es : List Expr} {w : MA} (c : CalI X.prog X.w G X.mg X.base k C x dsp) (hr : Room (k + 1) X.A) (ha : PDA G E X (e :: es) w) (hg : Gl X x := by rfl) (hdb : (x == ("__debug__" : Str)) = false := by decide +kernel) (he : starEach (e :: es) X.env = (false, eval e X.env) :: starEach es X.env := by rfl) (hpl : (backTo pos (starEach es X.env)).any (·.1) = false := by rfl) (hK : G.K = X.K := by rfl) :
    PDE G E X (.Call (.Name x p) (e :: es) [] pos) (mMake C dsp w) := by
  obtain ⟨f, fd, ps, F, M, hm, hb⟩ := c.ex
  exact pd_make M F hm hb passA hr ha hg hdb he hpl hK
theorem pd_make0C {C : Addr} {x : Str} {p pos : Pos} (c : CalI X.prog X.w G X.mg X.base k C x dsp) (hr : Room (k + 1) X.A) (hg : Gl X x := by rfl) (hdb : (x == ("__debug__" : Str)) = false := by decide +kernel) (hK : G.K = X.K := by rfl) :
    PDE G E X (.Call (.Name x p) [] [] pos) (mMake C dsp maNil) := by
  obtain ⟨f, fd, ps, F, M, hm, hb⟩ := c.ex
  exact pd_make0 M F hm hb passA hr hg hdb hK
end
end DL

set_option Elab.async false
set_option linter.all false
set_option maxRecDepth 100000
set_option autoImplicit false
namespace DL
open PySem PySem.Spec PyProof.Rows L2
/-! ## readings, step by step -/
section
variable {nx bk ct : DEnv → Sto → Prop} {rt : DQ} {xq : XQ} {ρ : DEnv} {st : Sto} {a b : MS} {w wa wb wc : ME} {t u : MT} {R : DQ} {Rb : Bool → Sto → Prop} {r : MA}
theorem sSeq_i (h : a ⟨fun ρ1 st1 => b ⟨nx, rt, bk, ct, xq⟩ ρ1 st1, rt, bk, ct, xq⟩ ρ st) : sSeq a b ⟨nx, rt, bk, ct, xq⟩ ρ st := h
theorem sNx_i (h : nx ρ st) : sNx ⟨nx, rt, bk, ct, xq⟩ ρ st := h
theorem sBk_i (h : bk ρ st) : sBk ⟨nx, rt, bk, ct, xq⟩ ρ st := h
theorem sCt_i (h : ct ρ st) : sCt ⟨nx, rt, bk, ct, xq⟩ ρ st := h
theorem sRt_i (h : w ρ st rt xq) : sRt w ⟨nx, rt, bk, ct, xq⟩ ρ st := h
theorem sRtN_i (h : rt .non st) : sRtN ⟨nx, rt, bk, ct, xq⟩ ρ st := h
theorem sEx_i (h : w ρ st (fun _ st1 => nx ρ st1) xq) : sEx w ⟨nx, rt, bk, ct, xq⟩ ρ st := h
theorem sIf_i (h : t ρ st (fun c st1 => if c = true then a ⟨nx, rt, bk, ct, xq⟩ ρ st1 else b ⟨nx, rt, bk, ct, xq⟩ ρ st1) xq) : sIf t a b ⟨nx, rt, bk, ct, xq⟩ ρ st := h
theorem sAs_i {g : MG} (h : w ρ st (fun d st1 => g d ρ st1 nx xq) xq) : sAs w g ⟨nx, rt, bk, ct, xq⟩ ρ st := h
theorem sAug_i {i : Nat} {g : Int → Int → Int} {d : D} (e : ρ[i]? = some (some d)) (h : w ρ st (fun y st1 => onI d fun a => onI y fun b => nx (ρ.set i (some (.int (g a b)))) st1) xq) : sAug i g w ⟨nx, rt, bk, ct, xq⟩ ρ st := by
  show (match ρ[i]? with | some (some d) => _ | _ => False); rw [e]; exact h
theorem sSetFld_i {C : Addr} {n : Nat} {we wv : ME} (h : wv ρ st (fun y st1 => we ρ st1 (fun x st2 => onO st2 x C fun j fs => fs.length < 1000 ∧ nx ρ (st2.set j (.ins C (putN n y fs)))) xq) xq) : sSetFld C n we wv ⟨nx, rt, bk, ct, xq⟩ ρ st := h
theorem sAugFld_i {C : Addr} {n : Nat} {g : Int → Int → Int} {we wv : ME} (h : we ρ st (fun x st1 => onO st1 x C fun _ fs => ∃ d, fldN fs n = some d ∧ wv ρ st1 (fun y st2 => onI d fun i => onI y fun j => onO st2 x C fun k fs' => fs'.length < 1000 ∧ nx ρ (st2.set k (.ins C (putN n (.int (g i j)) fs')))) xq) xq) : sAugFld C n g we wv ⟨nx, rt, bk, ct, xq⟩ ρ st := h
theorem sFor_i {wi : MI} {g : MG} (h : wi ρ st (fun xs inv st1 => forD inv g b ⟨nx, rt, bk, ct, xq⟩ xs ρ st1) xq) : sFor wi g b ⟨nx, rt, bk, ct, xq⟩ ρ st := h
theorem gNm_i {i : Nat} {d : D} {k : DEnv → Sto → Prop} {ρ' : DEnv} (e : ρ.set i (some d) = ρ') (h : k ρ' st) : gNm i d ρ st k xq := by subst e; exact h
theorem gTp_i {n : Nat} {ds : List D} {g : MGs} {k : DEnv → Sto → Prop} (e : ds.length = n) (h : g ds ρ st k xq) : gTp n g (.tup ds) ρ st k xq := ⟨e, h⟩
theorem gsCons_i {g : MG} {r : MGs} {d : D} {ds : List D} {k : DEnv → Sto → Prop} (h : g d ρ st (fun ρ1 st1 => r ds ρ1 st1 k xq) xq) : gsCons g r (d :: ds) ρ st k xq := h
theorem gsNil_i {k : DEnv → Sto → Prop} (h : k ρ st) : gsNil [] ρ st k xq := ⟨rfl, h⟩
theorem gSb_i {d : D} {k : DEnv → Sto → Prop} (h : wa ρ st (fun o st1 => wb ρ st1 (fun i st2 => dSet o i d st2 (k ρ)) xq) xq) : gSb wa wb d ρ st k xq := h
theorem mVar_i {i : Nat} {d : D} (e : ρ[i]? = some (some d)) (h : R d st) : mVar i ρ st R xq := by
  show (match ρ[i]? with | some (some d) => _ | _ => False); rw [e]; exact h
theorem mC_i {d : D} (h : R d st) : mC d ρ st R xq := h
theorem mOp_i {r' : D2} (h : wa ρ st (fun x st1 => wb ρ st1 (fun y st2 => r' x y st2 R) xq) xq) : mOp r' wa wb ρ st R xq := h
theorem mUn_i {r' : D → Sto → DQ → Prop} (h : wa ρ st (fun x st1 => r' x st1 R) xq) : mUn r' wa ρ st R xq := h
theorem mTest_i (h : w ρ st (fun d st' => onB d fun b => Rb b st') xq) : mTest w ρ st Rb xq := h
theorem mAnd_i (h : t ρ st (fun c st1 => if c = true then u ρ st1 Rb xq else Rb false st1) xq) : mAnd t u ρ st Rb xq := h
theorem mOr_i (h : t ρ st (fun c st1 => if c = true then Rb true st1 else u ρ st1 Rb xq) xq) : mOr t u ρ st Rb xq := h
theorem mNot_i (h : t ρ st (fun c st1 => Rb (!c) st1) xq) : mNot t ρ st Rb xq := h
theorem mAndV_i (h : wa ρ st (fun d st1 => onB d fun c => if c = true then wb ρ st1 R xq else R (.bl false) st1) xq) : mAndV wa wb ρ st R xq := h
theorem mOrV_i (h : wa ρ st (fun d st1 => onB d fun c => if c = true then R (.bl true) st1 else wb ρ st1 R xq) xq) : mOrV wa wb ρ st R xq := h
theorem mNotV_i (h : wa ρ st (fun d st1 => onB d fun c => R (.bl (!c)) st1) xq) : mNotV wa ρ st R xq := h
theorem mIf_i (h : t ρ st (fun c st1 => if c = true then wa ρ st1 R xq else wb ρ st1 R xq) xq) : mIf t wa wb ρ st R xq := h
theorem mYes_i (h : Rb true st) : mYes ρ st Rb xq := h
theorem onI_i {i : Int} {k : Int → Prop} (h : k i) : onI (.int i) k := h
theorem onB_i {i : Bool} {k : Bool → Prop} (h : k i) : onB (.bl i) k := h
theorem onS_i {i : Str} {k : Str → Prop} (h : k i) : onS (.str i) k := h
theorem maNil_i {k : List D → Sto → Prop} (h : k [] st) : maNil ρ st k xq := h
theorem maCons_i {k : List D → Sto → Prop} (h : w ρ st (fun x st1 => r ρ st1 (fun xs st2 => k (x :: xs) st2) xq) xq) : maCons w r ρ st k xq := h
theorem szN {n : Nat} (h : Nat.ble n sizeLine = true) : n ≤ sizeLine := Nat.le_of_ble_eq_true h
theorem mLst_i (h : r ρ st (fun xs st1 => xs.length ≤ sizeLine ∧ R (.lst xs) st1) xq) : mLst r ρ st R xq := h
theorem mTup_i (h : r ρ st (fun xs st1 => xs.length ≤ sizeLine ∧ R (.tup xs) st1) xq) : mTup r ρ st R xq := h
theorem mLstH_i (h : r ρ st (fun xs st1 => xs.length ≤ sizeLine ∧ R (.hdl st1.length) (st1 ++ [.lst xs])) xq) : mLstH r ρ st R xq := h
theorem mDic_i (h : R (.hdl st.length) (st ++ [.dK []])) : mDic ρ st R xq := h
theorem mCa_i {d : D1} (h : r ρ st (fun ds st1 => d ds st1 R) xq) : mCa d r ρ st R xq := h
theorem mCall_i {s : DSp} (h : r ρ st (fun ds st1 => s ds st1 R xq) xq) : mCall s r ρ st R xq := h
theorem mMeth_i {C : Addr} {s : DSp} (h : w ρ st (fun x st1 => (onO st1 x C fun _ _ => True) ∧ r ρ st1 (fun ds st2 => s (x :: ds) st2 R xq) xq) xq) : mMeth C s w r ρ st R xq := h
theorem mMeth0_i {C : Addr} {s : DSp} (h : w ρ st (fun x st1 => (onO st1 x C fun _ _ => True) ∧ s [x] st1 R xq) xq) : mMeth0 C s w ρ st R xq := h
theorem mMake_i {C : Addr} {s : DSp} (h : r ρ st (fun ds st1 => s (.hdl st1.length :: ds) (st1 ++ [.ins C []]) (fun d st2 => d = .non ∧ R (.hdl st1.length) st2) xq) xq) : mMake C s r ρ st R xq := h
theorem mFld_i {C : Addr} {n : Nat} (h : w ρ st (fun x st1 => onO st1 x C fun _ fs => ∃ d, fldN fs n = some d ∧ R d st1) xq) : mFld C n w ρ st R xq := h
theorem mMe_i {d : DM} (h : w ρ st (fun x st1 => isLD st1 x ∧ r ρ st1 (fun xs st2 => d x xs st2 R) xq) xq) : mMe d w r ρ st R xq := h
theorem mMe0_i {d : DM} (h : w ρ st (fun x st1 => isLD st1 x ∧ d x [] st1 R) xq) : mMe0 d w ρ st R xq := h
theorem mGet1_i (h : wa ρ st (fun x st1 => isKD st1 x ∧ wb ρ st1 (fun k st2 => onK st2 x fun _ kvs => ∃ key, toK k = some key ∧ R ((valD kvs key).getD .non) st2) xq) xq) : mGet1 wa wb ρ st R xq := h
theorem mGet2_i (h : wa ρ st (fun x st1 => isKD st1 x ∧ wb ρ st1 (fun k st2 => wc ρ st2 (fun z st3 => onK st3 x fun _ kvs => ∃ key, toK k = some key ∧ R ((valD kvs key).getD z) st3) xq) xq) xq) : mGet2 wa wb wc ρ st R xq := h
theorem mSetd_i (h : wa ρ st (fun x st1 => isKD st1 x ∧ wb ρ st1 (fun k st2 => wc ρ st2 (fun z st3 => onK st3 x fun j kvs => kvs.length < sizeLine ∧ ∃ key, toK k = some key ∧ (match valD kvs key with | some d => R d st3 | none => R z (st3.set j (.dK (putD kvs key z))))) xq) xq) xq) : mSetd wa wb wc ρ st R xq := h
theorem mDPop1_i (h : wa ρ st (fun x st1 => isKD st1 x ∧ wb ρ st1 (fun k st2 => onK st2 x fun j kvs => ∃ key d, toK k = some key ∧ valD kvs key = some d ∧ R d (st2.set j (.dK (dropD kvs key)))) xq) xq) : mDPop1 wa wb ρ st R xq := h
theorem mSl_i {wl wh : MO} (h : w ρ st (fun x st1 => wl ρ st1 (fun lo st2 => wh ρ st2 (fun hi st3 => dSl x lo hi st3 R) xq) xq) xq) : mSl w wl wh ρ st R xq := h
theorem mSlH_i {wl wh : MO} (h : w ρ st (fun x st1 => wl ρ st1 (fun lo st2 => wh ρ st2 (fun hi st3 => dSlH x lo hi st3 R) xq) xq) xq) : mSlH w wl wh ρ st R xq := h
theorem mSlStep_i (h : mOp dStep wa wb ρ st R xq) : mSlStep wa wb ρ st R xq := h
theorem moNone_i {k : Option Int → Sto → Prop} (h : k none st) : moNone ρ st k xq := h
theorem moSome_i {k : Option Int → Sto → Prop} (h : w ρ st (fun d st1 => onI d fun i => k (some i) st1) xq) : moSome w ρ st k xq := h
theorem mLenSet_i (h : w ρ st (fun d st1 => onL st1 d fun xs => ∃ ns, allI xs = some ns ∧ ns.length ≤ 4000 ∧ R (.int (setLen ns : Nat)) st1) xq) : mLenSet w ρ st R xq := h
theorem mLc_i {wi : MI} {g : Tgt} {vs : List Nat} (h : wi ρ st (fun xs inv st1 => lcD inv g t w (wipeD ρ vs) (fun acc st2 => R (.lst acc) st2) xs [] st1) xq) : mLc wi g t w vs ρ st R xq := h
theorem mLcH_i {wi : MI} {g : Tgt} {vs : List Nat} (h : wi ρ st (fun xs inv st1 => lcD inv g t w (wipeD ρ vs) (fun acc st2 => R (.hdl st2.length) (st2 ++ [.lst acc])) xs [] st1) xq) : mLcH wi g t w vs ρ st R xq := h
theorem miSeq_i {k : List D → (Sto → Prop) → Sto → Prop} (h : w ρ st (fun d st1 => dIt d st1 k) xq) : miSeq w ρ st k xq := h
theorem miR1_i {k : List D → (Sto → Prop) → Sto → Prop} (h : r ρ st (fun ds st1 => match ds with | [.int j] => -(2 ^ 62) ≤ j ∧ j < 2 ^ 62 ∧ k (rngD 0 j.toNat) noInv st1 | _ => False) xq) : miR1 r ρ st k xq := h
theorem miR2_i {k : List D → (Sto → Prop) → Sto → Prop} (h : r ρ st (fun ds st1 => match ds with | [.int i, .int j] => (-(2 ^ 62) ≤ i ∧ i < 2 ^ 62 ∧ -(2 ^ 62) ≤ j ∧ j < 2 ^ 62) ∧ k (rngD i (j - i).toNat) noInv st1 | _ => False) xq) : miR2 r ρ st k xq := h
theorem miR3n_i {k : List D → (Sto → Prop) → Sto → Prop} (h : r ρ st (fun ds st1 => match ds with | [.int i, .int j, .int c] => c = -1 ∧ (-(2 ^ 62) ≤ i ∧ i < 2 ^ 62 ∧ -(2 ^ 62) ≤ j ∧ j < 2 ^ 62) ∧ k (rngDn i (i - j).toNat) noInv st1 | _ => False) xq) : miR3n r ρ st k xq := h
theorem dIt_l {xs : List D} {k : List D → (Sto → Prop) → Sto → Prop} (h : k xs noInv st) : dIt (.lst xs) st k := h
theorem dIt_s {xs : List D} {k : List D → (Sto → Prop) → Sto → Prop} (h : k xs noInv st) : dIt (.scr xs) st k := h
theorem dIt_t {xs : List D} {k : List D → (Sto → Prop) → Sto → Prop} (h : k xs noInv st) : dIt (.tup xs) st k := h
theorem dIt_h {j : Nat} {xs : List D} {k : List D → (Sto → Prop) → Sto → Prop} (e : st[j]? = some (.lst xs)) (h : k xs (fun st' => st'[j]? = some (.lst xs)) st) : dIt (.hdl j) st k := by rw [dIt_hdl e]; exact h
/-! ### values -/
theorem dII_i {C : Int → Int → Prop} {g : Int → Int → D} {i j : Int} (c : C i j) (h : R (g i j) st) : dII C g (.int i) (.int j) st R := ⟨c, h⟩
theorem dII0_i {g : Int → Int → D} {i j : Int} (h : R (g i j) st) : dII0 g (.int i) (.int j) st R := h
theorem dAdd_i {i j : Int} (h : R (.int (i + j)) st) : dAdd (.int i) (.int j) st R := h
theorem dAdd_l {x y : D} {xs ys : List D} (e1 : dr st x = .lst xs) (e2 : dr st y = .lst ys) (hl : xs.length + ys.length ≤ sizeLine) (h : R (.lst (xs ++ ys)) st) : dAdd x y st R := by
  unfold dAdd; rw [e1, e2]; exact ⟨hl, h⟩
theorem dAddH_l {x y : D} {xs ys : List D} (e1 : dr st x = .lst xs) (e2 : dr st y = .lst ys) (hl : xs.length + ys.length ≤ sizeLine) (h : R (.hdl st.length) (st ++ [.lst (xs ++ ys)])) : dAddH x y st R := by
  unfold dAddH; rw [e1, e2]; exact ⟨hl, h⟩
theorem dMul_i {i j : Int} (c : CMulX i j) (h : R (.int (i * j)) st) : dMul (.int i) (.int j) st R := ⟨c, h⟩
theorem dNeg_i {i : Int} (h : R (.int (-i)) st) : dNeg (.int i) st R := h
theorem dEQ_i {n : Bool} {i j : Int} (h : R (.bl (xorB n (decide (i = j)))) st) : dEQ n (.int i) (.int j) st R := h
theorem dEQ_b {n : Bool} {i j : Bool} (h : R (.bl (xorB n (decide (i = j)))) st) : dEQ n (.bl i) (.bl j) st R := h
theorem dIsN_i {x : D} (h : R (.bl (isNon x)) st) : dIsN x .non st R := h
theorem dNotN_i {x : D} (h : R (.bl (!isNon x)) st) : dNotN x .non st R := h
theorem dIx_h {j : Nat} {xs : List D} {i : Int} {d : D} (e : st[j]? = some (.lst xs)) (q : atI xs i = some d) (h : R d st) : dIx (.hdl j) (.int i) st R := by
  unfold dIx; rw [dr_hdl e]; exact ⟨d, q, h⟩
theorem dIx_l {xs : List D} {i : Int} {d : D} (q : atI xs i = some d) (h : R d st) : dIx (.lst xs) (.int i) st R := ⟨d, q, h⟩
theorem dIx_s {xs : List D} {i : Int} {d : D} (q : atI xs i = some d) (h : R d st) : dIx (.scr xs) (.int i) st R := ⟨d, q, h⟩
theorem dIx_t {xs : List D} {i : Int} {d : D} (q : atI xs i = some d) (h : R d st) : dIx (.tup xs) (.int i) st R := ⟨d, q, h⟩
theorem dSet_l {j : Nat} {xs : List D} {n : Int} {m : Nat} {v : D} {k : Sto → Prop} (e : st[j]? = some (.lst xs)) (q : ixN xs.length n = some m) (h : k (st.set j (.lst (xs.set m v)))) : dSet (.hdl j) (.int n) v st k := by
  simp only [dSet, e, onI]; exact ⟨m, q, h⟩
theorem dSet_k {j : Nat} {kvs : List (Key × D)} {i v : D} {key : Key} {k : Sto → Prop} (e : st[j]? = some (.dK kvs)) (hl : kvs.length < sizeLine) (q : toK i = some key) (h : k (st.set j (.dK (putD kvs key v)))) : dSet (.hdl j) i v st k := by
  simp only [dSet, e]; exact ⟨hl, key, q, h⟩
theorem dLen_q {d : D} {xs : List D} (e : dr st d = .lst xs ∨ dr st d = .scr xs ∨ dr st d = .tup xs) (h : R (.int xs.length) st) : dLen [d] st R := by
  unfold dLen
  rcases e with e | e | e <;> (simp only [e]; exact h)
theorem dLen_l {xs : List D} (h : R (.int xs.length) st) : dLen [.lst xs] st R := h
theorem dLen_s {xs : List D} (h : R (.int xs.length) st) : dLen [.scr xs] st R := h
theorem dLen_t {xs : List D} (h : R (.int xs.length) st) : dLen [.tup xs] st R := h
theorem dLen_h {j : Nat} {xs : List D} (e : st[j]? = some (.lst xs)) (h : R (.int xs.length) st) : dLen [.hdl j] st R := dLen_q (.inl (dr_hdl e)) h
theorem isLD_h {j : Nat} {xs : List D} (e : st[j]? = some (.lst xs)) : isLD st (.hdl j) := by unfold isLD; rw [onL_hdl e]; trivial
theorem isKD_h {j : Nat} {xs : List (Key × D)} (e : st[j]? = some (.dK xs)) : isKD st (.hdl j) := by unfold isKD; rw [onK_hdl e]; trivial
theorem onO_h {j : Nat} {C : Addr} {fs : List (Nat × D)} {k : Nat → List (Nat × D) → Prop} (e : st[j]? = some (.ins C fs)) (h : k j fs) : onO st (.hdl j) C k := by rw [onO_hdl e]; exact h
theorem onK_h {j : Nat} {kvs : List (Key × D)} {k : Nat → List (Key × D) → Prop} (e : st[j]? = some (.dK kvs)) (h : k j kvs) : onK st (.hdl j) k := by rw [onK_hdl e]; exact h
theorem dApp_h {j : Nat} {xs : List D} {y : D} (e : st[j]? = some (.lst xs)) (hl : xs.length < sizeLine) (h : R .non (st.set j (.lst (xs ++ [y])))) : dApp (.hdl j) [y] st R := by
  simp only [dApp, onH_hdl e]; exact ⟨hl, h⟩
theorem dPopAt_h {j : Nat} {xs : List D} {i : Int} {k : Nat} {d : D} (e : st[j]? = some (.lst xs)) (q : seqIndex? i xs.length = some k) (q2 : xs[k]? = some d) (b1 : -(2 ^ 63) ≤ i) (b2 : i < 2 ^ 63) (h : R d (st.set j (.lst (xs.eraseIdx k)))) : dPopAt (.hdl j) [.int i] st R := by
  simp only [dPopAt, onH_hdl e]; exact ⟨k, d, q, q2, b1, b2, h⟩
theorem dIns_h {j : Nat} {xs : List D} {i : Int} {y : D} (e : st[j]? = some (.lst xs)) (hl : xs.length < sizeLine) (b1 : 0 ≤ i) (b2 : i < 2 ^ 63) (h : R .non (st.set j (.lst (xs.take i.toNat ++ [y] ++ xs.drop i.toNat)))) : dIns (.hdl j) [.int i, y] st R := by
  simp only [dIns, onH_hdl e]; exact ⟨hl, b1, b2, h⟩
theorem dInt_i {i : Int} (h : R (.int i) st) : dInt [.int i] st R := h
theorem dInt_b {i : Bool} (h : R (.int (if i then 1 else 0)) st) : dInt [.bl i] st R := h
theorem dII1_i {g : Int → Int → D} {i j : Int} (h : R (g i j) st) : dII1 g [.int i, .int j] st R := h
theorem dList_l {xs : List D} (h : R (.lst xs) st) : dList [.lst xs] st R := h
theorem dList_s {xs : List D} (h : R (.lst xs) st) : dList [.scr xs] st R := h
theorem dList_t {xs : List D} (h : R (.lst xs) st) : dList [.tup xs] st R := h
theorem dList_h {j : Nat} {xs : List D} (e : st[j]? = some (.lst xs)) (h : R (.lst xs) st) : dList [.hdl j] st R := by
  simp only [dList, dListH, dTuple, onQ_hdl e]; exact h
theorem dListH_l {xs : List D} (h : R (.hdl st.length) (st ++ [.lst xs])) : dListH [.lst xs] st R := h
theorem dListH_s {xs : List D} (h : R (.hdl st.length) (st ++ [.lst xs])) : dListH [.scr xs] st R := h
theorem dListH_t {xs : List D} (h : R (.hdl st.length) (st ++ [.lst xs])) : dListH [.tup xs] st R := h
theorem dListH_h {j : Nat} {xs : List D} (e : st[j]? = some (.lst xs)) (h : R (.hdl st.length) (st ++ [.lst xs])) : dListH [.hdl j] st R := by
  simp only [dList, dListH, dTuple, onQ_hdl e]; exact h
theorem dTuple_l {xs : List D} (h : R (.tup xs) st) : dTuple [.lst xs] st R := h
theorem dTuple_t {xs : List D} (h : R (.tup xs) st) : dTuple [.tup xs] st R := h
theorem dTuple_h {j : Nat} {xs : List D} (e : st[j]? = some (.lst xs)) (h : R (.tup xs) st) : dTuple [.hdl j] st R := by
  simp only [dList, dListH, dTuple, onQ_hdl e]; exact h
theorem dAll_l {bs : List Bool} (h : R (.bl (bs.all id)) st) : dAll [.lst (bs.map D.bl)] st R := ⟨bs, allB_bls bs, h⟩
theorem dDict_h {j : Nat} {kvs : List (Key × D)} (e : st[j]? = some (.dK kvs)) (h : R (.hdl st.length) (st ++ [.dK kvs])) : dDict [.hdl j] st R := by
  simp only [dDict, onK_hdl e]; exact h
theorem dIsB_b {a b : Bool} (h : R (.bl (decide (a = b))) st) : dIsB (.bl a) (.bl b) st R := h
theorem dIsB_n {b : Bool} (h : R (.bl false) st) : dIsB .non (.bl b) st R := h
theorem dNotB_b {a b : Bool} (h : R (.bl (!decide (a = b))) st) : dNotB (.bl a) (.bl b) st R := h
theorem dNotB_n {b : Bool} (h : R (.bl true) st) : dNotB .non (.bl b) st R := h
theorem ifT {A B : Prop} {c : Bool} (e : c = true) (h : A) : if c = true then A else B := by rw [if_pos e]; exact h
theorem ifF {A B : Prop} {c : Bool} (e : c = false) (h : B) : if c = true then A else B := by rw [if_neg (by rw [e]; decide)]; exact h
theorem ifD {A B : Prop} {c : Prop} [Decidable c] (h1 : c → A) (h2 : ¬ c → B) : if decide c = true then A else B := by
  by_cases h : c
  · rw [if_pos (decide_eq_true h)]; exact h1 h
  · rw [if_neg (by simp [h])]; exact h2 h
theorem ifB {A B : Prop} {c : Bool} (h1 : c = true → A) (h2 : c = false → B) : if c = true then A else B := by
  cases c
  · exact h2 rfl
  · exact h1 rfl
theorem tnm_i {i : Nat} {d : D} {k : DEnv → Prop} {ρ' : DEnv} (e : ρ.set i (some d) = ρ') (h : k ρ') : Tgt.run (.nm i) d ρ k := by subst e; exact h
theorem ttp_i {ts : List Tgt} {ds : List D} {k : DEnv → Prop} (e : ds.length = ts.length) (h : Tgt.runs ts ds ρ k) : Tgt.run (.tp ts) (.tup ds) ρ k := ⟨e, h⟩
theorem ttn_i {k : DEnv → Prop} (h : k ρ) : Tgt.runs [] [] ρ k := ⟨rfl, h⟩
theorem ttc_i {t : Tgt} {ts : List Tgt} {d : D} {ds : List D} {k : DEnv → Prop} (h : Tgt.run t d ρ fun ρ1 => Tgt.runs ts ds ρ1 k) : Tgt.runs (t :: ts) (d :: ds) ρ k := h
theorem dIt_dr {d : D} {xs : List D} {k : List D → (Sto → Prop) → Sto → Prop} (e : dr st d = .lst xs) (h : ∀ inv : Sto → Prop, (∀ st', dr st' d = .lst xs → inv st') → k xs inv st) : dIt d st k := by
  cases d with
  | lst ys => cases e; exact dIt_l (h _ fun _ _ => trivial)
  | hdl j =>
    have e' : st[j]? = some (.lst xs) := by
      simp only [dr] at e
      split at e
      · rename_i q; cases e; exact q
      · cases e
    refine dIt_h e' (h _ fun st' q => ?_)
    simp only [dr] at q
    split at q
    · rename_i q'; cases q; exact q'
    · cases q
  | non => cases e
  | bl _ => cases e
  | int _ => cases e
  | str _ => cases e
  | tup _ => cases e
  | scr _ => cases e
  | raw _ => cases e
  | exc _ => cases e
theorem dListH_q {d : D} {xs : List D} (e : dr st d = .lst xs) (h : R (.hdl st.length) (st ++ [.lst xs])) : dListH [d] st R := by
  simp only [dListH, onQ, e]; exact h
theorem dList_q {d : D} {xs : List D} (e : dr st d = .lst xs) (h : R (.lst xs) st) : dList [d] st R := by
  simp only [dList, onQ, e]; exact h
end
/-! ### loops by what is left -/
theorem forD_ind {inv : Sto → Prop} {g : MG} {b : MS} {e : DEnds} (P : List D → DEnv → Sto → Prop) (hnil : ∀ ρ st, P [] ρ st → inv st ∧ e.nx ρ st)
    (hcons : ∀ x xs ρ st (K : DEnv → Sto → Prop), P (x :: xs) ρ st → (∀ ρ' st', P xs ρ' st' → K ρ' st') → inv st ∧ g x ρ st (fun ρ1 st1 => b ⟨K, e.rt, e.nx, K, e.xq⟩ ρ1 st1) e.xq) : ∀ xs ρ st, P xs ρ st → forD inv g b e xs ρ st
  | [], ρ, st, h => hnil ρ st h
  | x :: xs, ρ, st, h => hcons x xs ρ st (forD inv g b e xs) h (forD_ind P hnil hcons xs)
theorem lcD_ind {inv : Sto → Prop} {g : Tgt} {tt : MT} {te : ME} {ρ : DEnv} {R : List D → Sto → Prop} (P : List D → List D → Sto → Prop) (hnil : ∀ acc st, P [] acc st → inv st ∧ R acc st)
    (hcons : ∀ x xs acc st (K : List D → Sto → Prop), P (x :: xs) acc st → (∀ acc' st', P xs acc' st' → K acc' st') → inv st ∧ g.run x ρ fun ρ1 => tt ρ1 st (fun c st1 => if c = true then te ρ1 st1 (fun d st2 => acc.length < sizeLine ∧ K (acc ++ [d]) st2) noX else K acc st1) noX) :
    ∀ xs acc st, P xs acc st → lcD inv g tt te ρ R xs acc st
  | [], acc, st, h => hnil acc st h
  | x :: xs, acc, st, h => hcons x xs acc st (lcD inv g tt te ρ R xs) h (lcD_ind P hnil hcons xs)
end DL

set_option Elab.async false
set_option linter.all false
set_option maxRecDepth 100000
set_option autoImplicit false
namespace DL
open PySem PySem.Spec PyProof.Rows L2

/-! ## a starred target -/
/-- what a starred target makes of the items -/
def starV {α : Type} (n k : Nat) (xs : List α) (mid : List α → α) : List α := xs.take k ++ [mid ((xs.drop k).take (xs.length + 1 - n))] ++ (xs.drop k).drop (xs.length + 1 - n)
theorem unpk_star {P : Program} {w : World} {A : Around} {E : Value → Shared → Prop} {s : Shared} {a : Addr} {its : Array Value} {n k : Nat} {Q : List Value → Shared → Prop}
    (hh : A.handled = none) (hk : k < n) (hn : n ≤ its.size + 1) (hz : its.size ≤ sizeLine) (hl : s.heap.IsList a its ∨ IsTup s.heap a its)
    (q : ∀ (h2 : Heap) (tk : Nat), (∀ b o, s.heap.get? b = some o → h2.get? b = some o) →
      Q (its.toList.take k ++ [.ref h2.objs.size] ++ (its.toList.drop k).drop (its.size + 1 - n)) { s with heap := h2.push { cls := .type "list", data := .seq ((its.toList.drop k).take (its.size + 1 - n)).toArray }, toks := tk }) :
    wpAny (model P w) A (unpackItems (.ref a) n (some k)) Q E s := by
  have fl : (its.toList.take k).length = k := by rw [List.length_take, Array.length_toList]; omega
  have rl : (its.toList.drop k).length = its.size - k := by rw [List.length_drop, Array.length_toList]
  have rm : (its.toList.drop k).length - (n - 1 - k) = its.size + 1 - n := by rw [rl]; omega
  have last : ∀ (h2 : Heap) (tk : Nat), (∀ b o, s.heap.get? b = some o → h2.get? b = some o) → wpAny (model P w) A (newList ((its.toList.drop k).take ((its.toList.drop k).length - (n - 1 - k))) >>= fun d => pure (its.toList.take k ++ [d] ++ (its.toList.drop k).drop ((its.toList.drop k).length - (n - 1 - k)))) Q E { s with heap := h2, toks := tk } := by
    intro h2 tk kp
    rw [rm]
    exact wpAny_bind (wpAny_newList (wpAny_pure (q h2 tk kp)) (by rw [List.length_take, rl]; omega))
  rcases hl with hl | hl
  · have ne : a ≠ s.heap.objs.size := by obtain ⟨o, ho, _⟩ := hl; exact Nat.ne_of_lt (Heap.lt_size ho)
    unfold unpackItems
    refine wpAny_bind ?_; unfold notIterableAtAll; refine wpAny_bind (wpAny_specialOf hl.typeIs slot_list_iter.lookup (wpAny_pure ?_)); simp only [Bool.false_eq_true, if_false]; refine wpAny_bind (wpAny_holding (wpAny_pyIter_list hl ?_)); refine wpAny_bind (wpAny_holding (PySem.W.kun_draw ne k 0 _ _ ⟨_, Heap.get?_push_size _ rfl, rfl, rfl⟩ (hl.push _) (by omega) fun h1 it1 sb1 => ?_))
    rw [Nat.zero_add] at it1
    have hl1 : h1.IsList a its := (hl.push _).extBut sb1.extBut ne
    have it2 := it1
    obtain ⟨oi, ei, _⟩ := it2
    have hl2 := hl1
    obtain ⟨ol, el, _⟩ := hl2
    rw [List.drop_zero, if_neg (by rw [fl]; omega)]
    refine wpAny_bind (wpAny_holding (PySem.W.kun_collect (s := { s with heap := h1 }) (T := "list_iterator") (.inr (.inr (.inl rfl))) (Walks.list (A := A.in1) hh s.heap.objs.size a ne its) (fun j u st => st.1.typeIs) (k := k) (by omega) ⟨it1, hl1⟩ (Heap.lt_size ei) (Heap.lt_size el) (fun h2 tk kp => ?_) hz))
    show wpAny _ _ (if (its.toList.drop k).length < n - 1 - k then _ else _) _ _ _
    rw [if_neg (by rw [rl]; omega)]
    exact last h2 tk fun b o e => kp b o (Nat.ne_of_lt (Heap.lt_size e)) (sb1.extBut b o (Nat.ne_of_lt (Heap.lt_size e)) (Heap.get?_push_of_some _ e))
  · have ne : a ≠ s.heap.objs.size := by obtain ⟨o, ho, _⟩ := hl; exact Nat.ne_of_lt (Heap.lt_size ho)
    unfold unpackItems
    refine wpAny_bind ?_; unfold notIterableAtAll; refine wpAny_bind (wpAny_specialOf hl.typeIs slot_tuple_iter.lookup (wpAny_pure ?_)); simp only [Bool.false_eq_true, if_false]; refine wpAny_bind (wpAny_holding (iter_tuple hl ?_)); refine wpAny_bind (wpAny_holding (draw_tuple ne k 0 _ _ ⟨_, Heap.get?_push_size _ rfl, rfl, rfl⟩ (hl.push _) (by omega) fun h1 it1 sb1 => ?_))
    rw [Nat.zero_add] at it1
    have hl1 : IsTup h1 a its := (hl.push _).extBut sb1.extBut ne
    have it2 := it1
    obtain ⟨oi, ei, _⟩ := it2
    have hl2 := hl1
    obtain ⟨ol, el, _⟩ := hl2
    rw [List.drop_zero, if_neg (by rw [fl]; omega)]
    refine wpAny_bind (wpAny_holding (PySem.W.kun_collect (s := { s with heap := h1 }) (T := "tuple_iterator") (.inr (.inr (.inr rfl))) (Walks.tuple (A := A.in1) hh s.heap.objs.size a ne its) (fun j u st => st.1.typeIs) (k := k) (by omega) ⟨it1, hl1⟩ (Heap.lt_size ei) (Heap.lt_size el) (fun h2 tk kp => ?_) hz))
    show wpAny _ _ (if (its.toList.drop k).length < n - 1 - k then _ else _) _ _ _
    rw [if_neg (by rw [rl]; omega)]
    exact last h2 tk fun b o e => kp b o (Nat.ne_of_lt (Heap.lt_size e)) (sb1.extBut b o (Nat.ne_of_lt (Heap.lt_size e)) (Heap.get?_push_of_some _ e))
theorem vals1 {v : V} {u : Value} (h : RelV v u) : Vals [v] [u] := .cons h .nil
def gTupS (K : PySem.W.Frag) (n k : Nat) (t : TGs) : TG := fun v σ H Q => ∃ a xs, v = .ref a ∧ (SqL K H a xs ∨ SqT K H a xs) ∧ n ≤ xs.length + 1 ∧
  ∀ p, H p = none → t (xs.take k ++ [.ref p] ++ (xs.drop k).drop (xs.length + 1 - n)) σ (upd H p (.lst ((xs.drop k).take (xs.length + 1 - n)))) Q
section
variable {X : Cx}
theorem vtake {vs : List V} {us : List Value} (h : Vals vs us) : ∀ n, Vals (vs.take n) (us.take n) := fun n => by
  induction h generalizing n with
  | nil => simp; exact .nil
  | cons a _ ih =>
    cases n with
    | zero => exact .nil
    | succ n => exact .cons a (ih n)
theorem pgs_consS {e : Expr} {es : List Expr} {t : TG} {u : TGs} {sp : Pos} (h1 : PG X e t) (h2 : PGs X es u)
    (hs : (assignEach (.Starred e sp :: es) X.env).map (·.2) = assign e X.env :: (assignEach es X.env).map (·.2) := by rfl) : PGs X (.Starred e sp :: es) (gCons t u) := by
  refine ⟨fun pins s σ H vs us Q I r h => ?_⟩
  obtain ⟨v, vr, rfl, h⟩ := h
  cases r with
  | cons r rr =>
    rw [hs]
    refine assignInOrder_cons (thn (h1.run pins s σ H _ _ _ I r h) fun _ s1 ⟨σ1, H1, I1, q1⟩ => h2.run pins s1 σ1 H1 _ _ Q I1 rr q1)
theorem pg_tupS {es : List Expr} {j : Nat} {t : TGs} {n k : Nat} {pos : Pos} (hc : X.calm = true) (h : PGs X es t)
    (hn : (assignEach es X.env).length = n := by rfl) (hst : (assignEach es X.env).findIdx? (·.1) = some k := by rfl) (hk : k < n := by decide) : PG X (.Tuple es j pos) (gTupS X.K n k t) := by
  refine ⟨fun pins s σ H v u Q I r hw => ?_⟩
  obtain ⟨a, xs, rfl, hq, hl, hw⟩ := hw
  cases r
  obtain ⟨its, rv, ht, hz⟩ : ∃ its : List Value, Vals xs its ∧ (s.heap.IsList a its.toArray ∨ IsTup s.heap a its.toArray) ∧ xs.length ≤ sizeLine := by
    rcases hq with hq | hq
    · obtain ⟨its, rv, p, hz⟩ := I.list hq
      exact ⟨its, rv, .inl p.isList, hz⟩
    · obtain ⟨its, rv, p, hz⟩ := I.tuple hq
      exact ⟨its, rv, .inr p, hz⟩
  have len : xs.length = its.length := rv.length
  rw [assign_Tuple]
  refine wpAny_bind (wpAny_standAt ?_)
  unfold unpack
  rw [hn, hst]
  refine wpAny_bind (wpAny_holding (unpk_star (I.ok.hd hc) hk (by simp [← len]; exact hl) (by simp [← len]; exact hz) ht fun h2 tk kp => ?_))
  have I1 : Inv X pins σ H { s with heap := h2, toks := tk } := I.kept (t' := tk) kp
  have I2 : Inv X pins σ (upd H h2.objs.size (.lst ((xs.drop k).take (xs.length + 1 - n)))) { s with heap := h2.push { cls := .type "list", data := .seq ((its.drop k).take (xs.length + 1 - n)).toArray }, toks := tk } := by
    refine I1.laid (t' := tk) (o := .lst _) (fun b ob q => Heap.get?_push_of_some _ q) (Nat.le_refl _) ⟨?_, _, 0, vtake (rv.drop k) _, Heap.get?_push_size _ rfl⟩
    rw [List.length_take, List.length_drop]; omega
  have I2' : Inv X pins σ (upd H h2.objs.size (.lst ((xs.drop k).take (xs.length + 1 - n)))) { s with heap := h2.push { cls := .type "list", data := .seq ((its.toArray.toList.drop k).take (its.toArray.size + 1 - n)).toArray }, toks := tk } := by
    have e : its.toArray.size = xs.length := by rw [len]; simp
    rw [e]; exact I2
  refine h.run pins _ σ _ _ _ Q I2' ?_ (hw _ (I1.hok.fresh (Nat.le_refl _)))
  have e : its.toArray.size = xs.length := by rw [len]; simp
  rw [e]
  exact ((vtake rv k).append (vals1 (v := .ref _) (u := .ref _) rfl)).append ((rv.drop k).drop _)
end
@[simp] def gTpS (n k : Nat) (r : MGs) : MG := fun d ρ st q xq => (∃ xs, (dr st d = .lst xs ∨ dr st d = .tup xs) ∧ n ≤ xs.length + 1 ∧ r (starV n k xs .lst) ρ st q xq)
section
variable {G : Gm} {E : XK} {X : Cx}
theorem gds_consS {e : Expr} {es : List Expr} {g : MG} {r : MGs} {sp : Pos} (h1 : PDG G E X e g) (h2 : PDGs G E X es r) (hs : (assignEach (.Starred e sp :: es) X.env).map (·.2) = assign e X.env :: (assignEach es X.env).map (·.2) := by rfl) : PDGs G E X (.Starred e sp :: es) (gsCons g r) :=
  PGs.weak (pgs_consS h1 h2 hs) fun v σ H Q ⟨W, ds, ρ, st, k, xq, rel, re, rv, w, o⟩ => by
    unfold gsCons at w
    split at w
    · simp only [RpL] at rv
      obtain ⟨v1, r1, rfl, q1, q2⟩ := rv
      exact ⟨v1, r1, rfl, W, _, ρ, st, _, xq, rel, re, q1, w, ⟨fun W1 H1 ρ1 σ1 st1 l1 rel1 re1 w1 => ⟨W1, _, ρ1, st1, k, xq, rel1, re1, q2.le l1, w1, o.le l1⟩, o.xq⟩⟩
    · cases w
theorem gd_tpS {es : List Expr} {j : Nat} {r : MGs} {n k : Nat} {pos : Pos} (h : PDGs G E X es r) (hc : X.calm = true := by rfl) (hn : (assignEach es X.env).length = n := by rfl) (hst : (assignEach es X.env).findIdx? (·.1) = some k := by rfl) (hk : k < n := by decide) (hK : G.K = X.K := by rfl) : PDG G E X (.Tuple es j pos) (gTpS n k r) :=
  PG.weak (pg_tupS hc h hn hst hk) fun v σ H Q ⟨W, d, ρ, st, q, xq, rel, re, rv, w, o⟩ => by
    obtain ⟨xs, hx, hl, w⟩ := w
    obtain ⟨a, vs, rfl, h1, h2⟩ : ∃ a vs, v = .ref a ∧ (SqL G.K H a vs ∨ SqT G.K H a vs) ∧ RpL G.K W H xs vs := by
      rcases hx with hx | hx
      · obtain ⟨a, vs, q1, q2, q3⟩ := dr_lst rel rv hx
        exact ⟨a, vs, q1, .inl (SqL.of q2), q3⟩
      · obtain rfl := dr_tup hx
        obtain ⟨a, vs, q1, q2, q3⟩ := tup_sq rv
        exact ⟨a, vs, q1, .inr q2, q3⟩
    rw [← hK]
    refine ⟨a, vs, rfl, h1, by rw [h2.length]; exact hl, fun p hp => ?_⟩
    have rn := newL (ds := (xs.drop k).take (xs.length + 1 - n)) (vs := (vs.drop k).take (xs.length + 1 - n)) rel hp ((h2.drop k).take _)
    refine ⟨W, _, ρ, st, q, xq, rel.fresh hp, re.le (Le.fresh hp), ?_, w, o.le (Le.fresh hp)⟩
    have l := h2.le (Le.fresh (o := .lst ((vs.drop k).take (xs.length + 1 - n))) hp)
    have el := h2.length
    rw [el]
    exact ((l.take k).append (.one rn)).append ((l.drop k).drop _)
end

/-! ## keyword-only parameters -/
structure CalK (P : Program) (w : World) (G : Gm) (mg : Str → Option Value) (base : Heap) (k : Nat) (x : Str) (n : Nat) (ks : List Str) (dsp : DSp) : Prop where
  ex : ∃ f fd ps, FnD P w G mg base CX0 k f fd ps dsp ∧ mg x = some (.ref f) ∧ PySem.W.keepIn G.K (.ref f) = true ∧ KBn G.K fd ps n ks (fun us ws => us ++ ws) (fun vs zs => vs ++ zs)
/-- called without its keyword: the default is () -/
structure CalD (P : Program) (w : World) (G : Gm) (mg : Str → Option Value) (base : Heap) (k : Nat) (x : Str) (dsp : DSp) : Prop where
  ex : ∃ f fd ps T, FnD P w G mg base CX0 k f fd ps dsp ∧ mg x = some (.ref f) ∧ PySem.W.keepIn G.K (.ref f) = true ∧ Binds G.K fd ps [.ref T] ∧ SqT G.K (fun _ => none) T []
@[simp] def mCallK (n m : Nat) (dsp : DSp) (w wk : MA) : ME := fun ρ st R xq => w ρ st (fun ds st1 => wk ρ st1 (fun zs st2 => ds.length = n ∧ zs.length = m ∧ dsp (ds ++ zs) st2 R xq) xq) xq
@[simp] def mCallD (dsp : DSp) (w : MA) : ME := fun ρ st R xq => w ρ st (fun ds st1 => dsp (ds ++ [.tup []]) st1 R xq) xq
def PDK (G : Gm) (E : XK) (X : Cx) (kws : List Keyword) (w : MA) : Prop := PK X kws (tDA G E w)
theorem PK.weak {X : Cx} {kws : List Keyword} {t t' : TA} (h : PK X kws t) (hw : ∀ σ H Q, t' σ H Q → t σ H Q) : PK X kws t' := ⟨fun pos pins s σ H Q I q => h.run pos pins s σ H Q I (hw _ _ _ q)⟩
section
variable {G : Gm} {E : XK} {X : Cx}
theorem mk_nil : PDK G E X [] maNil := PK.weak pk_nil fun σ H Q ⟨W, ρ, st, R, xq, rel, re, w, o⟩ => o.rt W H [] [] st Le.refl rel RpL.nil w
theorem mk_cons {nm : Option Str} {e : Expr} {kpos : Pos} {kws : List Keyword} {w : ME} {r : MA} (ha : PDE G E X e w) (hr : PDK G E X kws r) : PDK G E X (⟨nm, e, kpos⟩ :: kws) (maCons w r) :=
  PK.weak (pk_cons ha hr) fun σ H Q ⟨W, ρ, st, R, xq, rel, re, w, o⟩ =>
    ⟨W, ρ, st, _, xq, rel, re, w, ⟨fun W1 H1 d v st1 l1 rel1 rv w1 => ⟨W1, ρ, st1, _, xq, rel1, re.le l1, w1, ⟨fun W2 H2 ds vs st2 l2 rel2 rvs w2 => o.rt W2 H2 _ _ st2 (l1.trans l2) rel2 (RpL.cons (rv.le l2) rvs) w2, (o.le l1).xq⟩⟩, o.xq⟩⟩
theorem pd_callK {k n m : Nat} {ks : List Str} {dsp : DSp} {x : Str} {p pos : Pos} {e : Expr} {es : List Expr} {kws : List Keyword} {w wk : MA} (C : CalK X.prog X.w G X.mg X.base k x n ks dsp) (hr : Room k X.A) (ha : PDA G E X (e :: es) w) (hkw : PDK G E X kws wk) (hm : ks.length = m := by rfl) (hg : Gl X x := by rfl)
    (hall : (backToKw pos (keywordEach kws X.env)).all (·.1.isSome) = true := by rfl) (hks : (backToKw pos (keywordEach kws X.env)).filterMap (·.1) = ks := by rfl)
    (hdb : (x == ("__debug__" : Str)) = false := by decide +kernel) (he : starEach (e :: es) X.env = (false, eval e X.env) :: starEach es X.env := by rfl)
    (hpl : ((backTo pos (starEach (e :: es) X.env)).any (·.1) || (backToKw pos (keywordEach kws X.env)).any (·.1.isNone)) = false := by rfl) (hK : G.K = X.K := by rfl) :
    PDE G E X (.Call (.Name x p) (e :: es) kws pos) (mCallK n m dsp w wk) := by
  subst hm
  obtain ⟨f, fd, ps, F, hm, hk, hb⟩ := C.ex
  unfold FnD at F
  rw [hK] at F hk hb
  exact PE.weak (pe_callN F hr hg hm hk hb passA ha hkw hall hks hdb he hpl) fun σ H Q ⟨W, ρ, st, R, xq, rel, re, w, o⟩ =>
    ⟨W, ρ, st, _, xq, rel, re, w, ⟨fun W1 H1 ds vs st1 l1 rel1 rv w1 => ⟨W1, ρ, st1, _, xq, rel1, re.le l1, w1, ⟨fun W2 H2 zs us st2 l2 rel2 rz w2 =>
      ⟨by rw [rv.length]; exact w2.1, by rw [rz.length]; exact w2.2.1, W2, ds ++ zs, st2, R, xq, rel2, (rv.le l2).append rz, w2.2.2, o.le (l1.trans l2)⟩, (o.le l1).xq⟩⟩, o.xq⟩⟩
theorem pd_callD {k : Nat} {dsp : DSp} {x : Str} {p pos : Pos} {e : Expr} {es : List Expr} {w : MA} (C : CalD X.prog X.w G X.mg X.base k x dsp) (hr : Room k X.A) (ha : PDA G E X (e :: es) w) (hg : Gl X x := by rfl) (hdb : (x == ("__debug__" : Str)) = false := by decide +kernel) (he : starEach (e :: es) X.env = (false, eval e X.env) :: starEach es X.env := by rfl) (hpl : (backTo pos (starEach es X.env)).any (·.1) = false := by rfl) (hK : G.K = X.K := by rfl) :
    PDE G E X (.Call (.Name x p) (e :: es) [] pos) (mCallD dsp w) := by
  obtain ⟨f, fd, ps, T, F, hm, hk, hb, hT⟩ := C.ex
  unfold FnD at F
  have hK' := hK
  rw [hK] at F hk hb
  exact PE.weak (pe_call F hr hg hm hk hb (vals1 (v := .ref T) rfl) passA ha hdb he hpl) fun σ H Q ⟨W, ρ, st, R, xq, rel, re, w, o⟩ =>
    ⟨W, ρ, st, _, xq, rel, re, w, ⟨fun W1 H1 ds vs st1 l1 rel1 rv w1 => ⟨W1, ds ++ [.tup []], st1, R, xq, rel1, rv.append (.one (by simp only [Rp]; exact ⟨T, [], rfl, .inr hT, RpL.nil⟩)), w1, o.le l1⟩, o.xq⟩⟩
end
theorem gTpS_i {n k : Nat} {r : MGs} {d : D} {ρ : DEnv} {st : Sto} {q : DEnv → Sto → Prop} {xq : XQ} {xs ys : List D} (e : dr st d = .lst xs ∨ dr st d = .tup xs) (hn : n ≤ xs.length + 1) (he : starV n k xs .lst = ys) (h : r ys ρ st q xq) : gTpS n k r d ρ st q xq := ⟨xs, e, hn, by rw [he]; exact h⟩
theorem mCallK_i {n m : Nat} {dsp : DSp} {w wk : MA} {ρ : DEnv} {st : Sto} {R : DQ} {xq : XQ} (h : w ρ st (fun ds st1 => wk ρ st1 (fun zs st2 => ds.length = n ∧ zs.length = m ∧ dsp (ds ++ zs) st2 R xq) xq) xq) : mCallK n m dsp w wk ρ st R xq := h
theorem mCallD_i {dsp : DSp} {w : MA} {ρ : DEnv} {st : Sto} {R : DQ} {xq : XQ} (h : w ρ st (fun ds st1 => dsp (ds ++ [.tup []]) st1 R xq) xq) : mCallD dsp w ρ st R xq := h
end DL

set_option Elab.async false
set_option linter.all false
set_option maxRecDepth 100000
set_option autoImplicit false
namespace DL
open PySem PySem.Spec PyProof.Rows L2
/-! ## o[a:b] = a list -/
theorem bounds_clamp {a c n : Nat} (hac : a ≤ c) (ha : a ≤ n) : sliceBounds (some (a : Int)) (some (c : Int)) none n = ((a : Int), ((min c n : Nat) : Int), 1) := by
  have q1 : ¬ ((a : Int) < 0) := by omega
  have q2 : ¬ ((c : Int) < 0) := by omega
  simp only [sliceBounds, Option.getD_none, q1, q2, if_false, show (1 : Int) > 0 by decide, if_true]; congr 1; (first | omega | rfl); congr 1; omega
set_option maxRecDepth 100000 in
/-- a slice beyond the end is cut off -/
theorem setItem_clamp {P : Program} {w : World} {A : Around} {E : Value → Shared → Prop} {s : Shared} {l b sl : Addr} {its new : Array Value} {n n2 : Nat} {vl vu : Value} {a c : Nat} {Q : Unit → Shared → Prop}
    (e : s.heap.get? l = some { cls := .type "list", data := .seq its n }) (e2 : s.heap.get? b = some { cls := .type "list", data := .seq new n2 }) (hne : l ≠ b) (hs : s.heap.IsSliceOf sl vl vu .none) (pl : IsPart vl (some (a : Int))) (pu : IsPart vu (some (c : Int)))
    (hac : a ≤ c) (ha : a ≤ its.size) (hz : its.size + new.size ≤ sizeLine) (k : Q () { s with heap := s.heap.update l (Obj.mapSeq fun xs => xs.extract 0 a ++ new ++ xs.extract (min c its.size) xs.size) }) : wpAny (model P w) A (setItem (.ref l) (.ref sl) (.ref b)) Q E s := by
  have hl : s.heap.IsList l its := PySem.IsL.isList e; have hb : s.heap.IsList b new := PySem.IsL.isList e2
  obtain ⟨os, hos, hcs, hds⟩ := id hs
  have tS : s.TypeIs (.ref sl) "slice" := ⟨os, hos, hcs⟩; have st0 : ¬ ((rawPart none == rawInt 0) = true) := Bool.false_ne_true
  have same : Builtin.List.listSameRef (.ref l) (.ref b) = false := by unfold Builtin.List.listSameRef; exact beq_eq_false_iff_ne.mpr hne
  have mx : (max (a : Int) ((min c its.size : Nat) : Int)).toNat = min c its.size := by omega
  have sz : ((fun xs : Array Value => xs.extract 0 a ++ new ++ xs.extract (min c its.size) xs.size) its).size ≤ sizeLine + 1 := by simp only [Array.size_append, Array.size_extract]; omega
  unfold setItem; try with_reducible refine wpAny_holding ?_
  (first | refine wpAny_bind (wpAny_pure ?_) | skip); refine wpAny_bind (wpAny_sequenceKey hl.typeIs (by decide) ?_)
  refine wpAny_bind (wpAny_callSpecial?_slot (name := Str.ofString "__setitem__") hl.typeIs slot_list_setitem (wpAny_call_entry slot_list_setitem hl.typeIs entry_list_setitem ?_ (args_list_setitem _ _ _)))
  show wpAny _ _ (Builtin.List.listSubscript? (.ref sl) >>= _) _ _ s; refine wpAny_bind ?_
  unfold Builtin.List.listSubscript?; refine wpAny_bind (wpAny_specialOf tS slice_no_index ?_)
  simp only [Option.isNone_none, if_true]; refine wpAny_pure ?_
  show wpAny _ _ (typeOf (.ref sl) >>= _) _ _ s; refine wpAny_bind (wpAny_typeOf tS ?_)
  (first | rw [if_neg (by decide)] | refine PySem.W.KFB.if_not (by decide) ?_)
  rw [listSliceParts_eq]; refine wpAny_bind (wpAny_bind (wpAny_field hos hds (x := .none) rfl (wpAny_bind (wpAny_listPart .none ?_))))
  rw [if_neg st0]; refine wpAny_bind (wpAny_field hos hds (x := vl) rfl (wpAny_bind (wpAny_listPart pl ?_)))
  refine wpAny_bind (wpAny_field hos hds (x := vu) rfl (wpAny_bind (wpAny_listPart pu (wpAny_pure ?_)))); (first | simp only [same, Bool.false_eq_true, if_false] | refine PySem.W.KFB.if_not same ?_ | (dsimp only; rw [if_neg (by rw [same]; exact Bool.false_ne_true)]))
  refine wpAny_bind (m := Builtin.List.listAllItems (.ref b) "must assign iterable to extended slice") ?_; unfold Builtin.List.listAllItems
  refine wpAny_bind (wpAny_typeOf hb.typeIs ?_); (first | refine PySem.W.KFB.if_so (by decide) ?_ | rw [if_pos (by decide)] | simp only [beq_self_eq_true, Bool.true_or, if_true])
  unfold Builtin.List.listItems; refine wpAny_bind (wpAny_seqItems e2 rfl (wpAny_pure ?_))
  refine wpAny_bind (wpAny_bind (wpAny_seqItems e rfl (wpAny_pure ?_))); refine wpAny_bind (wpAny_of_eq ((sliceIndices_raw (some (a : Int)) (some (c : Int)) none its.size (by simp)).trans (congrArg (pure : Int × Int × Int → Sem (Int × Int × Int)) (bounds_clamp hac ha))) ?_)
  show wpAny _ _ (if ((1 : Int) == 1) = true then _ else _) _ _ s; rw [if_pos (by decide)]
  refine wpAny_bind (wpAny_rule ?_); (first | simp only [notLongL hz, Bool.false_eq_true, if_false] | refine PySem.W.KFB.if_not (notLongL hz) ?_)
  (first | refine wpAny_bind (wpAny_pure ?_) | skip); show wpAny _ _ (updateSeq l (fun xs => xs.extract 0 ((a : Int)).toNat ++ new ++ xs.extract (max (a : Int) ((min c its.size : Nat) : Int)).toNat xs.size) >>= _) _ _ s
  rw [mx, Int.toNat_natCast]; refine wpAny_bind (wpAny_updateSeq (hz := Nat.le_trans (Nat.le_add_right _ _) hz) (_hz' := sz) e rfl ?_)
  refine wpAny_bind (wpAny_letGo ?_); (first | exact wpAny_bind (wpAny_pure (wpAny_pure ⟨.none, rfl, wpAny_pure k⟩)) | exact wpAny_pure ⟨.none, rfl, wpAny_pure k⟩)
theorem set_clamp {X : Cx} {pins : List (Addr × Obj)} {s : Shared} {σ : L2.St} {H : Hp} {l b sl : Addr} {xs ys : List V} {a c : Int} {vl vu : Value} {Q : Unit → Shared → Prop} (I : Inv X pins σ H s) (hH : H l = some (.lst xs)) (hB : H b = some (.lst ys)) (hne : l ≠ b)
    (hs : s.heap.IsSliceOf sl vl vu .none) (ra : RelV (.int a) vl) (rc : RelV (.int c) vu) (h0 : 0 ≤ a) (hac : a ≤ c) (ha : a ≤ xs.length) (hz : xs.length + ys.length ≤ sizeLine) (k : ∀ s', Inv X pins σ (upd H l (.lst (xs.take a.toNat ++ ys ++ xs.drop c.toNat))) s' → Q () s') :
    wpAny (model X.prog X.w) X.A (setItem (.ref l) (.ref sl) (.ref b)) Q X.xe s := by
  obtain ⟨ta, rfl⟩ := ra; obtain ⟨tc, rfl⟩ := rc
  obtain ⟨z, its, n, r, hl, e⟩ := I.lstM hH; obtain ⟨z2, its2, n2, r2, hl2, e2⟩ := I.lstM hB
  obtain ⟨a', rfl⟩ := Int.eq_ofNat_of_zero_le h0; obtain ⟨c', rfl⟩ := Int.eq_ofNat_of_zero_le (Int.le_trans h0 hac)
  simp only [Int.toNat_natCast] at k
  have dr : xs.drop c' = xs.drop (min c' its.length) := by
    by_cases q : c' ≤ its.length
    · rw [Nat.min_eq_left q]
    · rw [Nat.min_eq_right (by omega), List.drop_eq_nil_of_le (by omega), List.drop_eq_nil_of_le (by omega)]
  refine setItem_clamp (a := a') (c := c') e e2 hne hs (.int _ _) (.int _ _) (by omega) (by rw [List.size_toArray]; omega) (by rw [List.size_toArray, List.size_toArray]; omega) (k _ ?_)
  rw [dr]
  refine I.lset (its' := its.take a' ++ its2 ++ its.drop (min c' its.length)) (t' := s.toks) hH e ?_ (Vals.append (Vals.append (r.take _) r2) (r.drop _)) ?_
  · rw [List.size_toArray]; exact splice_eq its its2 a' _
  · rw [List.length_append, List.length_append, List.length_take, List.length_drop]; omega
def gSubSl (to tl th : TE) : TG := fun v σ H Q => to σ H fun o H1 => tl σ H1 fun i H2 => th σ H2 fun j H3 => ∃ (l b : Addr) (xs ys : List V) (a c : Int), o = .ref l ∧ v = .ref b ∧ i = .int a ∧ j = .int c ∧ H3 l = some (.lst xs) ∧ H3 b = some (.lst ys) ∧ l ≠ b ∧ 0 ≤ a ∧ a ≤ c ∧ a ≤ xs.length ∧ xs.length + ys.length ≤ sizeLine ∧
  Q σ (upd H3 l (.lst (xs.take a.toNat ++ ys ++ xs.drop c.toNat)))
theorem pg_subSl {X : Cx} {o lo hi : Expr} {to tl th : TE} {pos p2 : Pos} (ho : PE X o to) (hl : PE X lo tl) (hh : PE X hi th)
    (ha : ∀ v, assign (.Subscript o (.Slice (some lo) (some hi) none p2) pos) X.env v = (do
      let ov ← holding [v] (eval o X.env); let iv ← holding [v, ov] (eval (.Slice (some lo) (some hi) none p2) X.env)
      standAt pos; holding [v, ov, iv] (setItem ov iv v); release [iv, v, ov] []) := by intro _; rfl) : PG X (.Subscript o (.Slice (some lo) (some hi) none p2) pos) (gSubSl to tl th) := by
  refine ⟨fun pins s σ H v u Q I r h => ?_⟩
  rw [ha]
  refine wpAny_bind (wpAny_holding (thn (ho.run pins s σ H _ I h) fun ov s1 ⟨x, H1, I1, r1, q1⟩ => wpAny_bind (wpAny_holding (wpAny_Slice ?_))))
  rw [evalPart_some]
  refine thn (hl.run pins s1 σ H1 _ I1 q1) fun vl s2 ⟨y, H2, I2, r2, q2⟩ => ?_
  rw [evalPart_some]
  refine thn (hh.run pins s2 σ H2 _ I2 q2) fun vu s3 ⟨z, H3, I3, r3, q3⟩ => ?_
  rw [evalPart_none]
  refine wpAny_pure ?_
  obtain ⟨l, b, xs, ys, a, c, rfl, rfl, rfl, rfl, e1, e2, ne, h0, hac, hc, hz, q⟩ := q3
  have I4 : Inv X pins σ H3 { s3 with heap := s3.heap.push { cls := .type "slice", data := .fields #[vl, vu, .none] } } := I3.kept (t' := s3.toks) fun b ob q => Heap.get?_push_of_some _ q
  cases r; cases r1
  refine wpAny_bind (wpAny_standAt (wpAny_bind (wpAny_holding (set_clamp I4 e1 e2 ne (Heap.IsSliceOf.new ..) r2 r3 h0 hac hc hz fun s' I' => ?_))))
  exact wpAny_release ⟨σ, _, I', q⟩
@[simp] def gSbSl (wo wl wh : ME) : MG := fun d ρ st k xq => wo ρ st (fun o st1 => wl ρ st1 (fun i st2 => wh ρ st2 (fun j st3 => ∃ (p : Nat) (xs ys : List D) (a c : Int), o = .hdl p ∧ i = .int a ∧ j = .int c ∧ st3[p]? = some (.lst xs) ∧ dr st3 d = .lst ys ∧ d ≠ .hdl p ∧ 0 ≤ a ∧ a ≤ c ∧ a ≤ xs.length ∧ xs.length + ys.length ≤ sizeLine ∧
  k ρ (st3.set p (.lst (xs.take a.toNat ++ ys ++ xs.drop c.toNat)))) xq) xq) xq
section
variable {G : Gm} {E : XK} {X : Cx}
theorem gd_sbSl {o lo hi : Expr} {wo wl wh : ME} {pos p2 : Pos} (ho : PDE G E X o wo) (hl : PDE G E X lo wl) (hh : PDE G E X hi wh)
    (ha : ∀ v, assign (.Subscript o (.Slice (some lo) (some hi) none p2) pos) X.env v = (do
      let ov ← holding [v] (eval o X.env); let iv ← holding [v, ov] (eval (.Slice (some lo) (some hi) none p2) X.env)
      standAt pos; holding [v, ov, iv] (setItem ov iv v); release [iv, v, ov] []) := by intro _; rfl) : PDG G E X (.Subscript o (.Slice (some lo) (some hi) none p2) pos) (gSbSl wo wl wh) :=
  PG.weak (pg_subSl ho hl hh ha) fun v σ H Q ⟨W, d, ρ, st, k, xq, rel, re, rv, w, o⟩ =>
    ⟨W, ρ, st, _, xq, rel, re, w, ⟨fun W1 H1 dx x st1 l1 rel1 rx w1 => ⟨W1, ρ, st1, _, xq, rel1, re.le l1, w1, ⟨fun W2 H2 di y st2 l2 rel2 ry w2 => ⟨W2, ρ, st2, _, xq, rel2, re.le (l1.trans l2), w2, ⟨fun W3 H3 dj z st3 l3 rel3 rz w3 => by
      obtain ⟨p, xs, ys, a, c, rfl, rfl, rfl, e1, e2, ne, h0, hac, hc, hz, w3⟩ := w3
      have rx3 := rx.le (l2.trans l3)
      have rv3 := rv.le (l1.trans (l2.trans l3))
      have ry3 := ry.le l3
      simp only [Rp] at rx3 ry3 rz
      obtain ⟨A, hA, rfl⟩ := rx3
      obtain ⟨b, h2, vs, h3, h4⟩ := rel3.cell _ _ e1
      rw [hA] at h2; cases h2
      obtain ⟨B, us, rfl, hB, hBr⟩ := dr_lst rel3 rv3 e2
      have nAB : A ≠ B := by
        rintro rfl
        cases d with
        | hdl q =>
          simp only [Rp] at rv3
          obtain ⟨C, hC, e⟩ := rv3
          cases e
          exact ne (by rw [get_inj rel3.nd hC hA])
        | lst ys' =>
          simp only [Rp] at rv3
          obtain ⟨C, _, e, n1, _⟩ := rv3
          cases e
          exact n1 (rel3.mem hA)
        | non => cases e2
        | bl _ => cases e2
        | int _ => cases e2
        | str _ => cases e2
        | tup _ => cases e2
        | scr _ => cases e2
        | raw _ => cases e2
        | exc _ => cases e2
      refine ⟨A, B, vs, us, a, c, rfl, rfl, ry3, rz, h3, hB, nAB, h0, hac, by rw [h4.length]; exact hc, by rw [h4.length, hBr.length]; exact hz, ?_⟩
      have l4 := Le.write (H := H3) (o := HO.lst (vs.take a.toNat ++ us ++ vs.drop c.toNat)) (rel3.mem hA)
      exact o.rt W3 _ _ σ _ (l1.trans (l2.trans (l3.trans l4))) (wrL rel3 hA (((h4.take _).append hBr).append (h4.drop _))) (re.le (l1.trans (l2.trans (l3.trans l4)))) w3, (o.le (l1.trans l2)).xq⟩⟩, (o.le l1).xq⟩⟩, o.xq⟩⟩
end
theorem gSbSl_i {wo wl wh : ME} {d : D} {ρ : DEnv} {st : Sto} {k : DEnv → Sto → Prop} {xq : XQ} (h : wo ρ st (fun o st1 => wl ρ st1 (fun i st2 => wh ρ st2 (fun j st3 => ∃ (p : Nat) (xs ys : List D) (a c : Int), o = .hdl p ∧ i = .int a ∧ j = .int c ∧ st3[p]? = some (.lst xs) ∧ dr st3 d = .lst ys ∧ d ≠ .hdl p ∧ 0 ≤ a ∧ a ≤ c ∧ a ≤ xs.length ∧ xs.length + ys.length ≤ sizeLine ∧
  k ρ (st3.set p (.lst (xs.take a.toNat ++ ys ++ xs.drop c.toNat)))) xq) xq) xq) : gSbSl wo wl wh d ρ st k xq := h
end DL

set_option Elab.async false
set_option linter.all false
set_option maxRecDepth 100000
set_option autoImplicit false
namespace DL
open PySem PySem.Spec PyProof.Rows L2
/-! ## zip of two lists that stay -/
def zipD (xs ys : List D) : List D := (xs.zip ys).map fun p => .tup [p.1, p.2]
theorem zipD_get {xs ys : List D} {i : Nat} {d : D} (e : (zipD xs ys)[i]? = some d) : ∃ x y, xs[i]? = some x ∧ ys[i]? = some y ∧ d = .tup [x, y] := by
  unfold zipD at e
  rw [List.getElem?_map, Option.map_eq_some_iff] at e
  obtain ⟨p, e1, rfl⟩ := e
  rw [List.getElem?_zip_eq_some] at e1
  exact ⟨p.1, p.2, e1.1, e1.2, rfl⟩
theorem it_zip {G : Gm} {W : Wd} {H : Hp} {a b : Addr} {xs ys : List D} (h : ∀ W' H', LeR W H W' H' → ∃ vs us, SqL G.K H' a vs ∧ RpL G.K W' H' xs vs ∧ SqL G.K H' b us ∧ RpL G.K W' H' ys us) : ItD G (Itz G.K a b) W H (zipD xs ys) noInv := by
  intro i W' H' st' l rel _
  obtain ⟨vs, us, h1, h2, h3, h4⟩ := h W' H' l
  refine ⟨fun hl => ⟨vs, us, h1, h3, ?_⟩, fun d e => ?_⟩
  · rw [h2.length, h4.length]
    have : (zipD xs ys).length = min xs.length ys.length := by simp [zipD]
    omega
  · obtain ⟨x, y, e1, e2, rfl⟩ := zipD_get e
    obtain ⟨v, q1, r1⟩ := h2.get e1
    obtain ⟨u, q2, r2⟩ := h4.get e2
    refine ⟨⟨vs, us, v, u, h1, h3, q1, q2⟩, fun z H'' g => ?_⟩
    obtain ⟨T, v', u', rfl, hT, rfl, g1, g2⟩ := g
    have e3 := g1 vs h1
    rw [q1] at e3; cases e3
    have e4 := g2 us h3
    rw [q2] at e4; cases e4
    exact ⟨W', Le.fresh hT, rel.fresh hT, newT rel hT (RpL.cons r1 (.one r2))⟩
@[simp] def miZip (w : MA) : MI := fun ρ st R xq => w ρ st (fun ds st1 => match ds with | [.lst xs, .lst ys] => R (zipD xs ys) noInv st1 | _ => False) xq
section
variable {G : Gm} {E : XK} {X : Cx}
theorem mi_zip {e e2 : Expr} {w : MA} {p pos tpos : Pos} {elts : List Expr} {kk : Nat} (hm : X.mg "zip" = none) (ha : PDA G E X [e, e2] w) (hg : Gl X "zip" := by rfl) (hs : starEach [e, e2] X.env = (false, eval e X.env) :: starEach [e2] X.env := by rfl) (hpl : (backTo pos (starEach [e2] X.env)).any (·.1) = false := by rfl) (hK : G.K = X.K := by rfl) :
    PDI G E X (.Tuple elts kk tpos) (.Call (.Name "zip" p) [e, e2] [] pos) (miZip w) :=
  PI.weak (pi_zip hg hm ha hs hpl) fun σ H Q ⟨W, ρ, st, R, xq, rel, re, w, o⟩ =>
    ⟨W, ρ, st, _, xq, rel, re, w, ⟨fun W1 H1 ds vs st1 l1 rel1 rv w1 => by
      rw [← hK]
      split at w1
      · rename_i xs ys
        obtain ⟨v, u, rfl, r1, r2⟩ := rpl2 rv
        simp only [Rp] at r1 r2
        obtain ⟨a, vs, rfl, h1, h2, h3, h4⟩ := r1
        obtain ⟨b, us, rfl, g1, g2, g3, g4⟩ := r2
        refine ⟨a, b, vs, us, rfl, SqL.of h3, SqL.of g3, o.rt W1 H1 _ _ _ st1 l1 rel1 (it_zip fun W2 H2 l2 => ⟨vs, us, ?_, h4.leR l2, ?_, g4.leR l2⟩) w1⟩
        · exact SqL.of (l2.keep a _ h1 h2 h3).2.2
        · exact SqL.of (l2.keep b _ g1 g2 g3).2.2
      · exact w1.elim, o.xq⟩⟩
end
/-- what is never come to -/
def sNever : MS := fun _ _ _ => False
theorem sd_never {G : Gm} {E : XK} {X : Cx} {s : Stmt} : PDS G E X s sNever := PS.weak ps_never fun Dn σ H ⟨W, ρ, st, e, rel, re, w, o⟩ => w.elim
theorem miZip_i {w : MA} {ρ : DEnv} {st : Sto} {xq : XQ} {k : List D → (Sto → Prop) → Sto → Prop} (h : w ρ st (fun ds st1 => match ds with | [.lst xs, .lst ys] => k (zipD xs ys) noInv st1 | _ => False) xq) : miZip w ρ st k xq := h
end DL

set_option Elab.async false
set_option linter.all false
set_option maxRecDepth 100000
set_option autoImplicit false
set_option maxHeartbeats 2000000
namespace L2
open PySem PySem.Spec PyProof.Rows
section
variable {X : Cx} {pins : List (Addr × Obj)} {σ : St} {H : Hp} {s : Shared}
/-- a pinned exception is tracked from now on -/
theorem Inv.trackX {a C : Addr} {oe : Obj} (I : Inv X ((a, oe) :: pins) σ H s) (n0 : X.s_0.heap.get? a = none) (np : ∀ p ∈ X.pn ++ pins, p.1 ≠ a) (z : Zc (.ref C) none oe) (d : ∃ vs, oe.data = .fields vs) : Inv X pins σ (upd H a (EXo C a)) s := by
  obtain ⟨e1, n, nL, nF, nc⟩ := I.pin (a, oe) (List.mem_append_right _ List.mem_cons_self)
  have ne : ∀ {b : Addr} {u : HO}, H b = some u → b ≠ a := fun {b u} e z => by rw [z] at e; rw [show H a = none from n] at e; cases e
  have nh : ∀ {b : Addr} {u : HO}, X.H_0 b = some u → H b = some u → b ≠ a := fun {b u} _ e => ne e
  refine ⟨I.ok, I.os, I.bare, ⟨I.base.keep, I.base.slot, fun b o e n' hx => ?_, I.base.there, fun b xs e => ?_, fun b o u e => ?_, fun b ps e => ?_⟩, I.loc, I.cell, ?_, fun y c e => ?_, fun p hp => ?_, fun b u e => ?_, I.len⟩
  · rw [upd_ne (fun q => by rw [q, n0] at e; cases e)]; exact I.base.free b o e n' hx
  · have q := I.base.tups b xs e; rw [upd_ne (ne q)]; exact q
  · have q := I.base.frzs b o u e; rw [upd_ne (ne q)]; exact q
  · obtain ⟨m, q⟩ := I.base.tbls b ps e; exact ⟨m, by rw [upd_ne (ne q)]; exact q⟩
  · rw [upd_ne (Ne.symm nL)]; exact I.free
  · have nca : c ≠ a := fun q => by
      obtain ⟨v, o, h1, h2⟩ := I.cell y c e
      rw [q, show s.heap.get? a = some oe from e1] at h1
      cases h1
      exact nc _ h2
    rw [upd_ne nca]; exact I.freeC y c e
  · obtain ⟨h1, h2, h3⟩ := I.pin p ((List.mem_append.mp hp).elim (fun q => List.mem_append_left _ q) fun q => List.mem_append_right _ (List.mem_cons_of_mem _ q))
    exact ⟨h1, by rw [upd_ne (np p hp)]; exact h2, h3⟩
  · by_cases hb : b = a
    · subst hb; rw [upd_same] at e; cases e; exact exo_is e1 z d
    · rw [upd_ne hb] at e
      exact (I.hok b u e).stay (fun c v _ q => q) (fun c q => by rw [upd_ne (ne q)]; exact q) fun c xs q => by rw [upd_ne (ne q)]; exact q
end
/-- what the clause 'except x as n: m = n' wishes of an exception: slots i, j are n's, m's; the object is tracked behind it -/
def wKeep (K : PySem.W.Frag) (c : Value) (i j : Nat) (Wout : WX) (D : Ends) : WX := fun cls d σ H =>
  ∃ C b, cls = .ref C ∧ d = none ∧ PySem.W.exmOne K cls c = some b ∧ (b = true → ∀ a, H a = none → D.nx (((σ.set i (some (.ref a))).set j (some (.ref a))).set i none) (upd H a (EXo C a))) ∧ (b = false → Wout cls d σ H)
section
variable {X : Cx} {x n : Str} {c : Value} {i j : Nat} {body suite : List Stmt} {b₀ : Stmt} {np pos pos' : Pos} {tb : WX → TS} {Wout : WX}
theorem ps_try_keep (hs : X.stack = X.env :: X.outer) (hf : X.env.frame = some X.env.locals) (hex : X.ex = []) (hN : X.N.Nodup) (hi : X.N[i]? = some n) (hlt : i < X.N.length) (hln : X.env.kindOf n = some .local) (hc : Names X x c) (tk : Takes X Wout)
    (hb : ∀ (W : WX) (pn : List (Addr × Obj)) (xe : Value → Shared → Prop), Takes (X.tr pn xe) W → PSs (X.tr pn xe) body (tb W))
    (hsu : ∀ (a : Addr) (oe : Obj) (pn : List (Addr × Obj)), PSs (X.suite a ((a, oe) :: pn)) (b₀ :: suite) (fun D σ H => σ[i]? = some (some (.ref a)) ∧ D.nx (σ.set j (some (.ref a))) H)) :
    PS X (.Try body [.ExceptHandler (some (.Name x np)) (some n) (b₀ :: suite) pos'] [] [] pos) (fun D σ H => tb (wKeep X.K c i j Wout D) D σ H) := by
  refine ⟨fun pins s σ H D I h => ?_⟩
  have ok := I.ok; have hfr : X.A.frames = some (X.env :: X.outer) := by rw [ok.frames, hs]
  refine wpAny_Try_except (wpAny_mono ((hb (wKeep X.K c i j Wout D) (X.pn ++ pins) (fun e s₁ => wpAny (model X.prog X.w) X.A (noteFrame e X.env) (fun _ s₂ => wpAny (model X.prog X.w) X.A (setFlight e none) (fun _ s₃ =>
    wpAny (model X.prog X.w) X.A (handleBy e X.env [.ExceptHandler (some (.Name x np)) (some n) (b₀ :: suite) pos']) (SP X pins D) X.xe s₃) X.xe s₂) X.xe s₁) (fun u s' xx => ?_)).run [] s σ H D (I.toTry _) h) (fun f s1 hsp => ?_) (fun e s1 he => he))
  · obtain ⟨a, B, sI, pins', σ', H', cls, d, rfl, J', nb, up, sky, na, os, ag, C, b, rfl, rfl, hb1, hyes, hno⟩ := xx
    have J : Inv X pins σ' H' sI := J'.ofTry ok; have sky' : Sky B (X.env :: X.outer) a (Zc (.ref C) none) X.env.locals s'.heap := by rw [← hs]; exact sky
    refine Sky.land (env := X.env) Zc.steady hfr hf sky' fun h3 fl3 up3 => ?_
    have J3 : Inv X pins σ' H' { s' with heap := h3 } := J.landed nb fl3.1 (up.trans up3) os ag; obtain ⟨oe3, vs3, he3, hz3, hd3⟩ := fl3.there
    have nfr : a ∉ frs (X.env :: X.outer) := fun hm => by
      obtain ⟨_, o', e', hnf⟩ := fl3.2.2.1.mem hm; rw [he3] at e'; cases e'; exact hnf _ hd3
    have nL : a ≠ X.env.locals := fun z => nfr (List.mem_filterMap.mpr ⟨X.env, List.mem_cons_self, by rw [hf, z]⟩)
    have nF : a ∉ X.fs := fun hm => by
      obtain ⟨e, he, q⟩ := List.mem_filterMap.mp hm; exact nfr (List.mem_filterMap.mpr ⟨e, List.mem_cons_of_mem _ he, q⟩)
    have nI : sI.heap.get? a = none := by
      cases q : sI.heap.get? a with
      | none => rfl
      | some o => have := nb a o q (by rw [hs]; exact nfr); rw [fl3.2.1] at this; cases this
    have n0 : X.s_0.heap.get? a = none := by
      cases q : X.s_0.heap.get? a with
      | none => rfl
      | some o => obtain ⟨o', q'⟩ := J.base.there a o q (by rw [hex]; exact List.not_mem_nil); rw [nI] at q'; cases q'
    have np' : ∀ p ∈ X.pn ++ pins, p.1 ≠ a := fun p hp z => by have := (J.pin p hp).1; rw [z, nI] at this; cases this
    have S3 := J3.suite he3 hd3 na nL nF
    refine wpAny_handleBy_cons (codeAny_handlers_test ?_) (by intro q; cases q)
    have LT : PySem.W.Looks (model X.prog X.w) h3 (typeOf (.ref a)) (.ref C) := fun A Q E s k q => wpAny_typeOf_ref (k _ _ he3) (by rw [hz3.1]; exact q)
    have LM := PySem.W.exm_one (M := model X.prog X.w) (J3.kIn) LT hb1
    have test : ∀ {Q : Value → Shared → Prop} {E : Value → Shared → Prop}, Q c { s' with heap := h3 } → wpAny (model X.prog X.w) (X.A.mark (some (.ref a))) (eval (.Name x np) X.env) Q E { s' with heap := h3 } := fun {Q E} q => by
      obtain ⟨hg, hdbg, hm | ⟨hm, hv, hnn⟩⟩ := hc
      · exact (ld_glob (X := X.suite a ((a, oe3) :: (X.pn ++ pins))) S3 hg hm q hdbg)
      · exact (ld_blt (X := X.suite a ((a, oe3) :: (X.pn ++ pins))) S3 hg hm hv q hnn hdbg)
    refine test (LM.here ?_)
    cases b with
    | true =>
      refine codeAny_handlers_suite_as (HandSPX.lands_againZ fl3 fun h4 fl4 up4 => ?_)
      have J4 : Inv X pins σ' H' { s' with heap := h4 } := J.landed nb fl4.1 ((up.trans up3).trans up4) os ag; obtain ⟨oe4, vs4, he4, hz4, hd4⟩ := fl4.there
      refine store_ok (X := X.suite a ((a, oe4) :: (X.pn ++ pins))) (v := .ref a) (J4.suite he4 hd4 na nL nF) hN hi (.inl hln) rfl (fun s5 S5 => ?_) (.inr hln)
      refine wpAny_mono ((hsu a oe4 (X.pn ++ pins)).run [] s5 _ H' { nx := fun σ6 H6 => H6 a = none → D.nx (σ6.set i none) (upd H6 a (EXo C a)), rt := fun _ _ => False } S5 ⟨by rw [List.getElem?_set_self]; rw [J4.len]; exact hlt, fun n6 => hyes rfl a na⟩) (fun f s6 hsp => ?_) (fun _ _ z => False.elim z)
      cases f with
      | next =>
        obtain ⟨σ6, H6, S6, q6⟩ := hsp
        obtain ⟨g1, g2, g3⟩ := S6.pin (a, oe4) (List.mem_append_left _ List.mem_cons_self)
        have S7 : Inv X ((a, oe4) :: pins) σ6 H6 s6 := ⟨ok, S6.os, S6.bare, S6.base, S6.loc, S6.cell, S6.free, S6.freeC, fun p hp => S6.pin p (List.mem_append_left _ (by
          rcases List.mem_append.mp hp with q | q
          · exact List.mem_cons_of_mem _ (List.mem_append_left _ q)
          · rcases List.mem_cons.mp q with q | q
            · rw [q]; exact List.mem_cons_self
            · exact List.mem_cons_of_mem _ (List.mem_append_right _ q))), S6.hok, S6.len⟩
        exact gone_ok S7 hN hi hln fun s7 J7 => ⟨_, _, J7.trackX n0 np' hz4 ⟨_, hd4⟩, q6 g2⟩
      | brk => obtain ⟨_, _, _, z⟩ := hsp; exact z.elim
      | cont => obtain ⟨_, _, _, z⟩ := hsp; exact z.elim
      | ret u => obtain ⟨_, _, _, _, _, z⟩ := hsp; exact z.elim
    | false =>
      refine wpAny_handleBy_nil ?_
      obtain ⟨k1, k2, k3, oe, vs, T, oT, ts', he, hz, hd, h1, hr⟩ := id fl3
      unfold PySem.passOn
      refine wpAny_bind (wpAny_field he hd h1 ?_); rw [if_neg (show ¬ ((Value.ref T == Value.none) = true) from by simp)]
      have fin : wpAny (model X.prog X.w) X.A (setFlight (.ref a) X.env.frame) (fun _ s4 => wpAny (model X.prog X.w) X.A (throw (.ref a) : Sem Flow) (SP X pins D) X.xe s4) X.xe { s' with heap := h3 } := by
        rw [hf]
        exact HandSPX.setFlight_upZ fl3 fun h4 hh4 up4 => wpAny_throw (tk _ _ ⟨a, B, sI, pins, σ', H', .ref C, none, rfl, J, nb, (up.trans up3).trans up4, .inr (.inr (by rw [hs]; exact hh4)), na, os, ag, hno rfl⟩)
      first
        | exact wpAny_bind (wpAny_pure (wpAny_bind fin))
        | exact wpAny_bind fin
  · cases f with
    | next => obtain ⟨σ', H', J', q⟩ := hsp; exact wpAny_execs_nil ⟨σ', H', J'.ofTry ok, q⟩
    | brk => obtain ⟨σ', H', J', q⟩ := hsp; exact ⟨σ', H', J'.ofTry ok, q⟩
    | cont => obtain ⟨σ', H', J', q⟩ := hsp; exact ⟨σ', H', J'.ofTry ok, q⟩
    | ret u => obtain ⟨v, σ', H', J', r, q⟩ := hsp; exact ⟨v, σ', H', J'.ofTry ok, r, q⟩
end
end L2
namespace L2
open PySem PySem.Spec PyProof.Rows
section
variable {X : Cx} {CX : CXT} {k n : Nat} {f : Addr} {fd : FuncData} {ps ks : List Str} {sp : Sp} {E : L2.St → XK} {x : Str} {p pos : Pos} {e : Expr} {es : List Expr} {kws : List Keyword} {t tk : TA} {ds : List Value} {dvs : List V}
/-- calls whose exceptions meet a wish at the slots: with keywords; with defaults -/
def tCallNS (n m : Nat) (sp : Sp) (E : L2.St → XK) (t tk : TA) : TE := fun σ H Q => t σ H fun vs H1 => tk σ H1 fun zs H2 => vs.length = n ∧ zs.length = m ∧ sp (vs ++ zs) H2 Q (E σ)
theorem pe_callNS (F : FnOk X.prog X.w X.K X.mg X.base CX k f fd ps sp) (hr : Room k X.A) (hg : Gl X x) (hm : X.mg x = some (.ref f)) (hk : PySem.W.keepIn X.K (.ref f) = true) (hb : KBn X.K fd ps n ks (fun us ws => us ++ ws) (fun vs zs => vs ++ zs)) (hx : ∀ σ, PassesAt CX X σ (E σ))
    (ha : PA X (e :: es) t) (hkw : PK X kws tk) (hall : (backToKw pos (keywordEach kws X.env)).all (·.1.isSome) = true := by rfl) (hks : (backToKw pos (keywordEach kws X.env)).filterMap (·.1) = ks := by rfl)
    (hdb : (x == ("__debug__" : Str)) = false := by decide) (he : starEach (e :: es) X.env = (false, eval e X.env) :: starEach es X.env := by rfl)
    (hpl : ((backTo pos (starEach (e :: es) X.env)).any (·.1) || (backToKw pos (keywordEach kws X.env)).any (·.1.isNone)) = false := by rfl) :
    PE X (.Call (.Name x p) (e :: es) kws pos) (tCallNS n ks.length sp E t tk) := by
  refine ⟨fun pins s σ H Q I h => wpAny_Call_Name_kw (ld_glob I hg hm (PySem.W.callWith_KW (h₀ := X.base) I.ok.mod.kin hk hall (thn (ha.run pos pins s σ H _ I h) fun us s1 ⟨vs, H1, I1, r, q⟩ => thn (hkw.run pos pins s1 σ H1 _ I1 q) fun ws s2 ⟨zs, H2, I2, rz, l1, l2, q2⟩ => ⟨I2.kIn, ?_⟩) hpl he) hdb)⟩
  rw [hks]
  refine wpAny_call (codeAny_mono (F.run X.A X.stack s2 H2 ⟨us, ks.zip ws⟩ (us ++ ws) (vs ++ zs) Q (E σ) hr I2.env0 (hb.to s2 us ws I2.kIn (r.length.symm.trans l1) (rz.length.symm.trans l2)) (r.append rz) q2) fun o s' hq => ?_)
  rcases o with ee | (_ | _ | _ | u)
  all_goals first | exact hx σ pins H2 s2 _ s' I2 hq | exact I2.after hq | exact False.elim hq
def tCallDS (sp : Sp) (dvs : List V) (E : L2.St → XK) (t : TA) : TE := fun σ H Q => t σ H fun vs H1 => sp (vs ++ dvs) H1 Q (E σ)
theorem pe_callDS (F : FnOk X.prog X.w X.K X.mg X.base CX k f fd ps sp) (hr : Room k X.A) (hg : Gl X x) (hm : X.mg x = some (.ref f)) (hk : PySem.W.keepIn X.K (.ref f) = true) (hb : Binds X.K fd ps ds) (hd : Vals dvs ds) (hx : ∀ σ, PassesAt CX X σ (E σ))
    (ha : PA X (e :: es) t) (hdb : (x == ("__debug__" : Str)) = false := by decide) (he : starEach (e :: es) X.env = (false, eval e X.env) :: starEach es X.env := by rfl) (hpl : (backTo pos (starEach es X.env)).any (·.1) = false := by rfl) :
    PE X (.Call (.Name x p) (e :: es) [] pos) (tCallDS sp dvs E t) := by
  refine ⟨fun pins s σ H Q I h => wpAny_Call_Name_kw (ld_glob I hg hm (PySem.W.callWith_K (h₀ := X.base) I.ok.mod.kin hk (thn (ha.run pos pins s σ H _ I h) fun us s1 ⟨vs, H1, I1, r, q⟩ => ⟨I1.kIn, ?_⟩) he hpl) hdb)⟩
  have r2 : Vals (vs ++ dvs) (us ++ ds) := r.append hd
  refine wpAny_call (codeAny_mono (F.run X.A X.stack s1 H1 ⟨us, []⟩ (us ++ ds) (vs ++ dvs) Q (E σ) hr I1.env0 (hb s1 us I1.kIn (by rw [← r2.length]; exact F.len _ _ _ _ q)) r2 q) fun o s' hq => ?_)
  rcases o with ee | (_ | _ | _ | u)
  all_goals first | exact hx σ pins H1 s1 _ s' I1 hq | exact I1.after hq | exact False.elim hq
end
/-! ### isinstance of a kept exception -/
def rIsX (K : PySem.W.Frag) : List V → Hp → VK → Prop := fun xs H Q => ∃ (a C : Addr) (c : V) (u : Value) (b : Bool), xs = [.ref a, c] ∧ H a = some (EXo C a) ∧ ExcC K C ∧ ClsV c u ∧ PySem.W.kitOne K (.ref C) u = some b ∧ Q (.bl b) H
def rIsXT (K : PySem.W.Frag) : List V → Hp → VK → Prop := fun xs H Q => ∃ (a C tp : Addr) (cs : List V) (us : List Value) (b : Bool), xs = [.ref a, .ref tp] ∧ H a = some (EXo C a) ∧ ExcC K C ∧ SqT K H tp cs ∧ Paired ClsV cs us ∧ PySem.W.kitAny K (.ref C) us = some b ∧ Q (.bl b) H
theorem exo_at2 {X : Cx} {pins : List (Addr × Obj)} {σ : St} {H : Hp} {s : Shared} {a C : Addr} (I : Inv X pins σ H s) (e : H a = some (EXo C a)) : ∃ oe, PySem.W.InstAt s.heap a oe C none := by
  obtain ⟨⟨⟨oc, od, oda, osl⟩, hget, ⟨h1, h2⟩, vs, hv⟩, _⟩ := I.hok a _ e
  dsimp only at h1 h2 hv
  subst h1 h2 hv
  exact ⟨_, hget, rfl, rfl, trivial⟩
theorem call_isX {X : Cx} : CallR X (.builtin "isinstance") (rIsX X.K) := by
  intro pins s σ H xs us Q I r h
  obtain ⟨a, C, c, u, b, rfl, ha, ec, k, e, q⟩ := h
  obtain ⟨u1, u2, rfl, r1, r2⟩ := vals2 r
  obtain rfl : u1 = Value.ref a := r1
  have e2 := k.eq r2
  subst e2
  obtain ⟨oe, J⟩ := exo_at2 I ha
  exact PySem.W.kia_one (PySem.W.handS_kitx_exc ec.hg ec.hk ec.hs ec.hd ec.ha ec.hn ec.ht ec.hm) I.kIn J e (fun z => nomatch z) fun tk => ⟨.bl b, H, I.tok tk, rfl, q⟩
theorem call_isXT {X : Cx} : CallR X (.builtin "isinstance") (rIsXT X.K) := by
  intro pins s σ H xs us Q I r h
  obtain ⟨a, C, tp, cs, ws, b, rfl, ha, ec, hT, k, e, q⟩ := h
  obtain ⟨u1, u2, rfl, r1, r2⟩ := vals2 r
  obtain rfl : u1 = Value.ref a := r1
  obtain rfl : u2 = Value.ref tp := r2
  obtain ⟨oe, J⟩ := exo_at2 I ha
  obtain ⟨its, ⟨oc, od, dt, sl⟩, n, rv, h1, h2, h3⟩ := sqT_at I.hok I.kIn hT
  have e3 := ClsV.all k rv
  subst e3
  simp only at h2 h3
  subst h2 h3
  exact PySem.W.kia_tup (PySem.W.handS_kitx_exc ec.hg ec.hk ec.hs ec.hd ec.ha ec.hn ec.ht ec.hm) I.kIn J h1 e (fun z => nomatch z) fun tk => ⟨.bl b, H, I.tok tk, rfl, q⟩
end L2
namespace DL
open PySem PySem.Spec PyProof.Rows L2
/-! ## exceptions -/
/-- a class of errors that the text names -/
structure XNm (K : PySem.W.Frag) (mg : Str → Option Value) (x : Str) (C : Addr) : Prop where
  mg : mg x = some (.ref C)
  kp : PySem.W.keepIn K (.ref C) = true
/-- .. that is raised -/
structure XRs (K : PySem.W.Frag) (C : Addr) : Prop where
  ex : PySem.W.excIn K C [.type "ValueError", .type "Exception", .type "BaseException", .type "object"] "ValueError.__new__" = true
  sb : PySem.W.subIn K (.ref C) (.type "BaseException") = some true
  ty : PySem.W.typeIn K (.ref C) = some (.type "type")
section
variable {G : Gm} {E : XK} {X : Cx}
@[simp] def sRaise (C : Addr) : MS := fun e _ st => e.xq C st
theorem sd_raise {C : Addr} {x m : Str} {j p p2 pos pos'} (tk : Takes X (fun cls d _ H => E cls d H)) (n : XNm G.K X.mg x C) (r : XRs G.K C) (hg : Gl X x := by rfl) (hc : X.calm = true := by rfl) (hdb : (x == ("__debug__" : Str)) = false := by decide +kernel) (hK : G.K = X.K := by rfl) :
    PDS G E X (.Raise (some (.Call (.Name x p) [.Constant (.str m) j p2] [] pos)) none pos') (sRaise C) := by
  have q := r.ex; have q2 := n.kp; have q3 := r.sb; have q4 := r.ty
  rw [hK] at q q2 q3 q4
  exact PS.weak (ps_raise hc tk (pmk_own PySem.F.excBase_ValueError q n.mg q2 (raises_own q3 q4) hg hdb)) fun Dn σ H ⟨W, ρ, st, e, rel, re, w, o⟩ => o.xq W H C st Le.refl rel w
/-- the name of a class -/
theorem pd_xnm {C : Addr} {x : Str} {pos : Pos} (n : XNm G.K X.mg x C) (hg : Gl X x := by rfl) (hd : (x == ("__debug__" : Str)) = false := by decide +kernel) : PDE G E X (.Name x pos) (mC (.raw (.ref C))) :=
  pd_c (pe_glob hg n.mg (v := .ref C) rfl hd) fun _ _ => rfl
/-- isinstance of a kept exception: tb tells the answers -/
@[simp] def dIsX (u : V) (tb : List (Addr × Bool)) : D1 := fun ds st R => match ds with
  | [.exc C, .raw v] => ∃ b, (C, b) ∈ tb ∧ v = u ∧ R (.bl b) st
  | _ => False
@[simp] def dIsXT (us : List Addr) (tb : List (Addr × Bool)) : D1 := fun ds st R => match ds with
  | [.exc C, .tup vs] => ∃ b, (C, b) ∈ tb ∧ vs = us.map (fun a => .raw (.ref a)) ∧ R (.bl b) st
  | _ => False
theorem cd_isX {u : V} {cv : Value} {tb : List (Addr × Bool)} (k : ClsV u cv) (h : ∀ p ∈ tb, ExcC G.K p.1 ∧ PySem.W.kitOne G.K (.ref p.1) cv = some p.2) (hK : G.K = X.K) : CaD G (rIsX X.K) (dIsX u tb) := by
  intro E W H st ds vs R xq Q rel rs w o
  rw [← hK]
  unfold dIsX at w
  split at w
  · rename_i C v
    obtain ⟨b, h1, rfl, w⟩ := w
    obtain ⟨v1, v2, rfl, r1, r2⟩ := rpl2 rs
    simp only [Rp] at r1
    obtain ⟨a, rfl, _, _, ha⟩ := r1
    obtain rfl : v2 = v := r2
    exact ⟨a, C, v2, cv, b, rfl, ha, (h _ h1).1, k, (h _ h1).2, o.rt W H (.bl b) _ st Le.refl rel rfl w⟩
  · cases w
theorem raws_eq {K : PySem.W.Frag} {W : Wd} {H : Hp} : ∀ {us : List Addr} {vs : List V}, RpL K W H (us.map fun a => D.raw (.ref a)) vs → vs = us.map V.ref
  | [], vs, h => by simpa only [List.map, RpL] using h
  | u :: us, vs, h => by
    simp only [List.map, RpL, Rp] at h
    obtain ⟨v, r, rfl, rfl, h2⟩ := h
    rw [raws_eq h2]; rfl
theorem own_all : ∀ us : List Addr, Paired ClsV (us.map V.ref) (us.map Value.ref)
  | [] => .nil
  | u :: us => .cons (.own u) (own_all us)
theorem cd_isXT {us : List Addr} {tb : List (Addr × Bool)} (h : ∀ p ∈ tb, ExcC G.K p.1 ∧ PySem.W.kitAny G.K (.ref p.1) (us.map Value.ref) = some p.2) (hK : G.K = X.K) : CaD G (rIsXT X.K) (dIsXT us tb) := by
  intro E W H st ds vs R xq Q rel rs w o
  rw [← hK]
  unfold dIsXT at w
  split at w
  · rename_i C vs
    obtain ⟨b, h1, rfl, w⟩ := w
    obtain ⟨v1, v2, rfl, r1, r2⟩ := rpl2 rs
    simp only [Rp] at r1
    obtain ⟨a, rfl, _, _, ha⟩ := r1
    obtain ⟨t, cs, rfl, h3, h4⟩ := tup_sq r2
    obtain rfl := raws_eq h4
    exact ⟨a, C, t, _, _, b, rfl, ha, (h _ h1).1, h3, own_all us, (h _ h1).2, o.rt W H (.bl b) _ st Le.refl rel rfl w⟩
  · cases w
/-! ### try: y = v / except P as n: m = n -/
def tDs (G : Gm) (E : L2.St → XK) (w : ME) : TE := fun σ H Q => ∃ W ρ st R xq, Rel G W H st ∧ RpE G.K W H ρ σ ∧ w ρ st R xq ∧ OutE G (E σ) W H R xq Q
def PDEs (G : Gm) (E : L2.St → XK) (X : Cx) (e : Expr) (w : ME) : Prop := PE X e (tDs G E w)
theorem pds_of {E : L2.St → XK} {e : Expr} {w : ME} (h : ∀ E, PDE G E X e w) : PDEs G E X e w :=
  ⟨fun pins s σ H Q I q => (h (E σ)).run pins s σ H Q I q⟩
theorem pds_if {E : L2.St → XK} {c a b : Expr} {t : MT} {wa wb : ME} {pos : Pos} (hc : ∀ E, PDT G E X c t) (ha : PDEs G E X a wa) (hb : PDEs G E X b wb) : PDEs G E X (.IfExp c a b pos) (mIf t wa wb) :=
  PE.weak (pe_ifExp (tA := fun σ H Q => tDT G (E σ) t σ H Q) ⟨fun pins s σ H Q I q => (hc (E σ)).run pins s σ H Q I q⟩ ha hb) fun σ H Q ⟨W, ρ, st, R, xq, rel, re, w, o⟩ =>
    ⟨W, ρ, st, _, xq, rel, re, w, ⟨fun W1 H1 c st1 l1 rel1 w1 => by
      cases c with
      | true => exact ⟨W1, ρ, st1, R, xq, rel1, re.le l1, w1, o.le l1⟩
      | false => exact ⟨W1, ρ, st1, R, xq, rel1, re.le l1, w1, o.le l1⟩, o.xq⟩⟩
end
/-- calls that may let an exception out -/
structure CalX (P : Program) (w : World) (G : Gm) (mg : Str → Option Value) (base : Heap) (k : Nat) (x : Str) (dsp : DSp) : Prop where
  ex : ∃ f fd ps, FnD P w G mg base (L2.CX P w) k f fd ps dsp ∧ mg x = some (.ref f) ∧ PySem.W.keepIn G.K (.ref f) = true ∧ Binds G.K fd ps []
structure CalKX (P : Program) (w : World) (G : Gm) (mg : Str → Option Value) (base : Heap) (k : Nat) (x : Str) (n : Nat) (ks : List Str) (dsp : DSp) : Prop where
  ex : ∃ f fd ps, FnD P w G mg base (L2.CX P w) k f fd ps dsp ∧ mg x = some (.ref f) ∧ PySem.W.keepIn G.K (.ref f) = true ∧ KBn G.K fd ps n ks (fun us ws => us ++ ws) (fun vs zs => vs ++ zs)
structure CalDX (P : Program) (w : World) (G : Gm) (mg : Str → Option Value) (base : Heap) (k : Nat) (x : Str) (dsp : DSp) : Prop where
  ex : ∃ f fd ps T, FnD P w G mg base (L2.CX P w) k f fd ps dsp ∧ mg x = some (.ref f) ∧ PySem.W.keepIn G.K (.ref f) = true ∧ Binds G.K fd ps [.ref T] ∧ SqT G.K (fun _ => none) T []
section
variable {G : Gm} {X : Cx} {W : WX}
theorem pds_callK {k n m : Nat} {ks : List Str} {dsp : DSp} {x : Str} {p pos : Pos} {e : Expr} {es : List Expr} {kws : List Keyword} {w wk : MA} (C : CalKX X.prog X.w G X.mg X.base k x n ks dsp) (tk : Takes X W) (hr : Room k X.A) (ha : ∀ E, PDA G E X (e :: es) w) (hkw : ∀ E, PDK G E X kws wk) (hm : ks.length = m := by rfl) (hg : Gl X x := by rfl)
    (hall : (backToKw pos (keywordEach kws X.env)).all (·.1.isSome) = true := by rfl) (hks : (backToKw pos (keywordEach kws X.env)).filterMap (·.1) = ks := by rfl)
    (hdb : (x == ("__debug__" : Str)) = false := by decide +kernel) (he : starEach (e :: es) X.env = (false, eval e X.env) :: starEach es X.env := by rfl)
    (hpl : ((backTo pos (starEach (e :: es) X.env)).any (·.1) || (backToKw pos (keywordEach kws X.env)).any (·.1.isNone)) = false := by rfl) (hK : G.K = X.K := by rfl) :
    PDEs G (WE W) X (.Call (.Name x p) (e :: es) kws pos) (mCallK n m dsp w wk) := by
  subst hm
  obtain ⟨f, fd, ps, F, hm, hk, hb⟩ := C.ex
  unfold FnD at F
  rw [hK] at F hk hb
  exact PE.weak (pe_callNS (E := WE W) (t := fun σ H Q => tDA G (WE W σ) w σ H Q) (tk := fun σ H Q => tDA G (WE W σ) wk σ H Q) F hr hg hm hk hb (fun σ => passAt tk σ) ⟨fun pos pins s σ H Q I q => (ha (WE W σ)).run pos pins s σ H Q I q⟩ ⟨fun pos pins s σ H Q I q => (hkw (WE W σ)).run pos pins s σ H Q I q⟩ hall hks hdb he hpl) fun σ H Q ⟨W, ρ, st, R, xq, rel, re, w, o⟩ =>
    ⟨W, ρ, st, _, xq, rel, re, w, ⟨fun W1 H1 ds vs st1 l1 rel1 rv w1 => ⟨W1, ρ, st1, _, xq, rel1, re.le l1, w1, ⟨fun W2 H2 zs us st2 l2 rel2 rz w2 =>
      ⟨by rw [rv.length]; exact w2.1, by rw [rz.length]; exact w2.2.1, W2, ds ++ zs, st2, R, xq, rel2, (rv.le l2).append rz, w2.2.2, o.le (l1.trans l2)⟩, (o.le l1).xq⟩⟩, o.xq⟩⟩
theorem pds_callD {k : Nat} {dsp : DSp} {x : Str} {p pos : Pos} {e : Expr} {es : List Expr} {w : MA} (C : CalDX X.prog X.w G X.mg X.base k x dsp) (tk : Takes X W) (hr : Room k X.A) (ha : ∀ E, PDA G E X (e :: es) w) (hg : Gl X x := by rfl) (hdb : (x == ("__debug__" : Str)) = false := by decide +kernel) (he : starEach (e :: es) X.env = (false, eval e X.env) :: starEach es X.env := by rfl) (hpl : (backTo pos (starEach es X.env)).any (·.1) = false := by rfl) (hK : G.K = X.K := by rfl) :
    PDEs G (WE W) X (.Call (.Name x p) (e :: es) [] pos) (mCallD dsp w) := by
  obtain ⟨f, fd, ps, T, F, hm, hk, hb, hT⟩ := C.ex
  unfold FnD at F
  have hK' := hK
  rw [hK] at F hk hb
  exact PE.weak (pe_callDS (E := WE W) (t := fun σ H Q => tDA G (WE W σ) w σ H Q) F hr hg hm hk hb (vals1 (v := .ref T) rfl) (fun σ => passAt tk σ) ⟨fun pos pins s σ H Q I q => (ha (WE W σ)).run pos pins s σ H Q I q⟩ hdb he hpl) fun σ H Q ⟨W, ρ, st, R, xq, rel, re, w, o⟩ =>
    ⟨W, ρ, st, _, xq, rel, re, w, ⟨fun W1 H1 ds vs st1 l1 rel1 rv w1 => ⟨W1, ds ++ [.tup []], st1, R, xq, rel1, rv.append (.one (by simp only [Rp]; exact ⟨T, [], rfl, .inr hT, RpL.nil⟩)), w1, o.le l1⟩, o.xq⟩⟩
theorem pds_call {k : Nat} {dsp : DSp} {x : Str} {p pos : Pos} {e : Expr} {es : List Expr} {w : MA} (C : CalX X.prog X.w G X.mg X.base k x dsp) (tk : Takes X W) (hr : Room k X.A) (ha : ∀ E, PDA G E X (e :: es) w) (hg : Gl X x := by rfl) (hdb : (x == ("__debug__" : Str)) = false := by decide +kernel) (he : starEach (e :: es) X.env = (false, eval e X.env) :: starEach es X.env := by rfl) (hpl : (backTo pos (starEach es X.env)).any (·.1) = false := by rfl) (hK : G.K = X.K := by rfl) :
    PDEs G (WE W) X (.Call (.Name x p) (e :: es) [] pos) (mCall dsp w) := by
  obtain ⟨f, fd, ps, F, hm, hk, hb⟩ := C.ex
  unfold FnD at F
  rw [hK] at F hk hb
  exact PE.weak (pe_callDS (E := WE W) (t := fun σ H Q => tDA G (WE W σ) w σ H Q) F hr hg hm hk hb .nil (fun σ => passAt tk σ) ⟨fun pos pins s σ H Q I q => (ha (WE W σ)).run pos pins s σ H Q I q⟩ hdb he hpl) fun σ H Q ⟨W, ρ, st, R, xq, rel, re, w, o⟩ =>
    ⟨W, ρ, st, _, xq, rel, re, w, ⟨fun W1 H1 ds vs st1 l1 rel1 rv w1 => ⟨W1, ds, st1, R, xq, rel1, by rw [List.append_nil]; exact rv, w1, o.le l1⟩, o.xq⟩⟩
end
section
variable {G : Gm} {E : XK} {X : Cx}
/-- try: y = v / except P as n: m = n: only exceptions of the classes cs come out of v; slots l, i, j are y's, n's, m's -/
@[simp] def sTry (l i j : Nat) (cs : List Addr) (w : ME) : MS := fun e ρ st => w ρ st (fun d st1 => e.nx (ρ.set l (some d)) st1) fun C st1 => C ∈ cs ∧ e.nx ((ρ.set j (some (.exc C))).set i none) st1
theorem RpE.unset {K : PySem.W.Frag} {W : Wd} {H : Hp} {ρ : DEnv} {σ : L2.St} (r : RpE K W H ρ σ) (i : Nat) (o : Option V) : RpE K W H (ρ.set i none) (σ.set i o) := by
  refine ⟨by simp [r.len], fun j e q => ?_⟩
  by_cases hj : i = j
  · subst hj
    by_cases hi : i < ρ.length
    · rw [List.getElem?_set_self hi] at q; cases q
    · rw [List.getElem?_eq_none (by simp; omega)] at q; cases q
  · rw [List.getElem?_set_ne hj] at q
    obtain ⟨w, h1, h2⟩ := r.get j e q
    exact ⟨w, by rw [List.getElem?_set_ne hj]; exact h1, h2⟩
theorem sd_try {P : Addr} {cs : List Addr} {x n y m : Str} {v : Expr} {w : ME} (l i j : Nat) {np yp mp np2 apos apos2 pos pos' : Pos} (nm : XNm G.K X.mg x P) (hcs : ∀ C ∈ cs, PySem.W.exmOne G.K (.ref C) (.ref P) = some true)
    (hv : ∀ (W : WX) (pn : List (Addr × Obj)) (xe : Value → Shared → Prop), Takes (X.tr pn xe) W → PDEs G (WE W) (X.tr pn xe) v w)
    (hN : X.N.Nodup) (hij : i ≠ j := by decide) (hs : X.stack = X.env :: X.outer := by rfl) (hf : X.env.frame = some X.env.locals := by rfl) (hex : X.ex = [] := by rfl)
    (hl : X.N[l]? = some y := by rfl) (hi : X.N[i]? = some n := by rfl) (hj : X.N[j]? = some m := by rfl) (hln : X.env.kindOf n = some .local := by rfl)
    (hyl : X.env.scope.names.lookup y = some .local := by rfl) (hnl : X.env.scope.names.lookup n = some .local := by rfl) (hml : X.env.scope.names.lookup m = some .local := by rfl)
    (hsw : swapsWith v (some (.Name y yp)) apos.line X.env = pure false := by rfl) (hsw2 : swapsWith (.Name n np2) (some (.Name m mp)) apos2.line X.env = pure false := by rfl)
    (hg : Gl X x := by rfl) (hd : (x == ("__debug__" : Str)) = false := by decide +kernel) (hdn : (n == ("__debug__" : Str)) = false := by decide +kernel) (hdc : (n == ("__classdict__" : Str)) = false := by decide +kernel) (hK : G.K = X.K := by rfl) :
    PDS G E X (.Try [.Assign [.Name y yp] v apos] [.ExceptHandler (some (.Name x np)) (some n) [.Assign [.Name m mp] (.Name n np2) apos2] pos'] [] [] pos) (sTry l i j cs w) := by
  refine PS.weak (ps_try_keep (i := i) (j := j) (tb := fun W => tAsg (tDs G (WE W) w) (gName l)) (Wout := fun _ _ _ _ => False) hs hf hex hN hi (List.getElem?_eq_some_iff.mp hi).1 hln ⟨hg, hd, .inl nm.mg⟩ takes0 (fun W pn xe tk => pss_one (ps_set (X := X.tr pn xe) hN hl (.inl hyl) (hv W pn xe tk) hsw (.inr hyl)))
    (fun a oe pn => PSs.weak (pss_one (ps_set (X := X.suite a ((a, oe) :: pn)) hN hj (.inl hml) (pe_var hi (.inl hnl) hdn hdc) hsw2 (.inr hml))) fun D σ H h => ⟨_, h.1, h.2⟩)) fun Dn σ H ⟨W, ρ, st, e, rel, re, w, o⟩ => ?_
  refine ⟨W, ρ, st, _, _, rel, re, w, ⟨fun W1 H1 d v st1 l1 rel1 rv w1 => o.nx W1 H1 _ _ st1 l1 rel1 ((re.le l1).set rv l) w1, fun W1 H1 C st1 l1 rel1 w1 => ?_⟩⟩
  obtain ⟨hC, w1⟩ := w1
  refine ⟨C, true, rfl, rfl, by rw [← hK]; exact hcs C hC, fun _ a na => ?_, fun z => by cases z⟩
  have l2 : Le W1 H1 W1 (upd H1 a (EXo C a)) := Le.fresh na
  have rx : Rp G.K W1 (upd H1 a (EXo C a)) (.exc C) (.ref a) := by simp only [Rp]; exact ⟨a, rfl, rel1.nin na, rel1.nex na, upd_same⟩
  refine o.nx W1 _ _ _ st1 (l1.trans l2) (rel1.fresh na) ?_ w1
  have r1 := ((re.le (l1.trans l2)).set rx j).unset i none
  refine ⟨by simp [r1.len], fun q d h => ?_⟩
  obtain ⟨v, h1, h2⟩ := r1.get q d h
  refine ⟨v, ?_, h2⟩
  by_cases hq : i = q
  · subst hq
    by_cases hi' : i < σ.length
    · rw [List.getElem?_set_self (by simpa using hi')] at h1; cases h1
    · rw [List.getElem?_eq_none (by simpa using hi')] at h1; cases h1
  · rw [List.getElem?_set_ne hq] at h1 ⊢
    by_cases hj' : j = q
    · subst hj'
      by_cases hlt : j < σ.length
      · rw [List.getElem?_set_self hlt] at h1; rw [List.getElem?_set_self (by simpa using hlt)]; exact h1
      · rw [List.getElem?_eq_none (by simpa using hlt)] at h1; cases h1
    · rw [List.getElem?_set_ne hj'] at h1 ⊢; rw [List.getElem?_set_ne hq]; exact h1
end
theorem FnD.mkX {P : Program} {w : World} {G : Gm} {mg : Str → Option Value} {base : Heap} {x qual : Str} {st : Stmt} {f : Addr} {fd : FuncData} {N ps : List Str} {k : Nat} {dsp : DSp} {b : MS} (F : Fun G.K x qual st f fd) (S : FnScope N ps (defScope st)) (len : ∀ ds st R xq, dsp ds st R xq → ds.length = ps.length)
    (der : ∀ (cdv : Value) (A : Around) (outer : List Env) (s : Shared) (H : Hp) (E : XK), Room k (A.deeper (envOfC qual (defScope st) s.heap.objs.size f cdv)) → Takes (cxOf (L2.CX P w) P w G.K mg base N qual (defScope st) f cdv A outer s H E) (fun cls d _ H => E cls d H) → PDSs G E (cxOf (L2.CX P w) P w G.K mg base N qual (defScope st) f cdv A outer s H E) (defBody st) b)
    (sem : ∀ ds st R xq, dsp ds st R xq → b ⟨fun _ st' => R .non st', R, fun _ _ => False, fun _ _ => False, xq⟩ (startD N ds) st) : FnD P w G mg base (L2.CX P w) (k + 1) f fd ps dsp := by
  unfold FnD
  refine F.okX S (fun vs H Q E h => ?_) (fun cdv A outer s H vs Q E hr h => ⟨_, der cdv A outer s H E hr (takes_of rfl rfl rfl rfl), ?_⟩)
  · obtain ⟨W, ds, st, R, xq, rel, rl, hsp, o⟩ := h
    rw [rl.length]; exact len ds st R xq hsp
  · obtain ⟨W, ds, st, R, xq, rel, rl, hsp, o⟩ := h
    exact ⟨W, startD N ds, st, _, rel, start_rp rl, sem ds st R xq hsp, ⟨fun W1 H1 ρ1 σ1 st1 l1 rel1 re1 w1 => o.rt W1 H1 .non .non st1 l1 rel1 rfl w1, fun _ _ _ _ _ _ _ _ z => z.elim, fun _ _ _ _ _ _ _ _ z => z.elim, o.rt, o.xq⟩⟩
end DL

set_option Elab.async false
set_option linter.all false
set_option maxRecDepth 100000
set_option autoImplicit false
namespace DL
open PySem PySem.Spec PyProof.Rows L2
/-! ## constants of the text -/
/-- the text's name x holds what d tells -/
structure GlD (G : Gm) (mg : Str → Option Value) (x : Str) (d : D) : Prop where
  ex : ∃ (v : V) (u : Value), mg x = some u ∧ RelV v u ∧ ∀ W H, Rp G.K W H d v
section
variable {G : Gm} {E : XK} {X : Cx}
theorem pd_glb {x : Str} {d : D} {pos : Pos} (g : GlD G X.mg x d) (hg : Gl X x := by rfl) (hd : (x == ("__debug__" : Str)) = false := by decide +kernel) : PDE G E X (.Name x pos) (mC d) := by
  obtain ⟨v, u, h1, h2, h3⟩ := g.ex
  exact pd_c (pe_glob hg h1 h2 hd) h3
end
/-! ## written tables: texts, each with a def -/
/-- at d: a written dict of these pairs -/
structure TabD (G : Gm) (d : Addr) (tb : List (Str × Addr)) : Prop where
  ex : ∃ (es : Array DictEntry) (n : Nat), G.K.lookup d = some ⟨.type "dict", none, .dict es n, #[]⟩ ∧ PySem.W.KeysLit G.w.params es.toList ∧ (d == sysModules) = false ∧ ∀ x, PySem.W.nsIn G.K d x = some ((tb.lookup x).map Value.ref)
def rInKD (d : Addr) (tb : List (Str × Addr)) (neg : Bool) : R2 := fun x y H Q => ∃ z, x = .str z ∧ y = .ref d ∧ Q (.bl (if neg then !(tb.lookup z).isSome else (tb.lookup z).isSome)) H
def rIxKD (d : Addr) (tb : List (Str × Addr)) : R2 := fun x y H Q => ∃ z a, x = .ref d ∧ y = .str z ∧ tb.lookup z = some a ∧ Q (.ref a) H
section
variable {G : Gm} {E : XK} {X : Cx} {d : Addr} {tb : List (Str × Addr)}
theorem TabD.kd (T : TabD G d tb) (hK : G.K = X.K) (hw : G.w = X.w) : ∃ es n, KDict X.K X.w d es n := by
  obtain ⟨es, n, h1, h2, h3, _⟩ := T.ex
  exact ⟨es, n, ⟨by rw [← hK]; exact h1, by rw [← hw]; exact h2, h3⟩⟩
theorem op_inKD (T : TabD G d tb) (hK : G.K = X.K) (hw : G.w = X.w) : OpR X (compareOp .In) (rInKD d tb false) := by
  obtain ⟨es, n, D⟩ := T.kd hK hw
  obtain ⟨_, _, _, _, _, hx⟩ := T.ex
  intro pins s σ H x y v u Q I rx ry ⟨z, ex, ey, q⟩
  refine op_in_kd D pins s σ H x y v u Q I rx ry ⟨z, _, ex, ey, by rw [← hK]; exact hx z, ?_⟩
  rw [Option.isSome_map]; exact q
theorem op_notInKD (T : TabD G d tb) (hK : G.K = X.K) (hw : G.w = X.w) : OpR X (compareOp .NotIn) (rInKD d tb true) := by
  obtain ⟨es, n, D⟩ := T.kd hK hw
  obtain ⟨_, _, _, _, _, hx⟩ := T.ex
  intro pins s σ H x y v u Q I rx ry ⟨z, ex, ey, q⟩
  refine op_notIn_kd D pins s σ H x y v u Q I rx ry ⟨z, _, ex, ey, by rw [← hK]; exact hx z, ?_⟩
  rw [Option.isSome_map]; exact q
theorem ix_KD (T : TabD G d tb) (hK : G.K = X.K) (hw : G.w = X.w) : IxR X (rIxKD d tb) := by
  obtain ⟨es, n, D⟩ := T.kd hK hw
  obtain ⟨_, _, _, _, _, hx⟩ := T.ex
  intro value slice pins s σ H x y v u Q I rx ry h hs
  obtain ⟨z, a, rfl, rfl, e, q⟩ := h
  cases (show v = Value.ref d from rx)
  have e2 : PySem.W.nsIn X.K d z = some (some (Value.ref a)) := by rw [← hK, hx z, e]; rfl
  exact tail_any (kd_type D I) PySem.F.slot_dict_getitem.lookup (op_item_kd D pins s σ H (.ref d) (.str z) _ u Q I rfl ry ⟨z, _, .ref a, rfl, rfl, e2, rfl, q⟩) hs
@[simp] def dInKD (d : Addr) (tb : List (Str × Addr)) (neg : Bool) : D2 := fun x y st R => y = .raw (.ref d) ∧ onS x fun z => R (.bl (if neg then !(tb.lookup z).isSome else (tb.lookup z).isSome)) st
@[simp] def dIxKD (d : Addr) (tb : List (Str × Addr)) : D2 := fun x y st R => x = .raw (.ref d) ∧ onS y fun z => ∃ a, tb.lookup z = some a ∧ R (.raw (.ref a)) st
theorem od_inKD (neg : Bool) : OpD G (rInKD d tb neg) (dInKD d tb neg) := by
  intro E W H st dx dy x y R xq Q rel rx ry w o
  obtain ⟨rfl, w⟩ := w
  obtain ⟨z, rfl, w⟩ := onS_of rx w
  exact ⟨z, rfl, ry, o.rt W H (.bl _) _ st Le.refl rel rfl w⟩
theorem od_ixKD : OpD G (rIxKD d tb) (dIxKD d tb) := by
  intro E W H st dx dy x y R xq Q rel rx ry w o
  obtain ⟨rfl, w⟩ := w
  obtain ⟨z, rfl, a, e, w⟩ := onS_of ry w
  exact ⟨z, a, rx, rfl, e, o.rt W H (.raw _) _ st Le.refl rel rfl w⟩
theorem pd_inKD {a b : Expr} {wa wb : ME} {pos : Pos} (T : TabD G d tb) (ha : PDE G E X a wa) (hb : PDE G E X b wb) (hm : behindInMarks .In b = false := by rfl) (hK : G.K = X.K := by rfl) (hw : G.w = X.w := by first | rfl | assumption) : PDE G E X (.Compare a [.In] [b] pos) (mOp (dInKD d tb false) wa wb) := pd_cmp (op_inKD T hK hw) (od_inKD false) ha hb hm
theorem pt_inKD {a b : Expr} {wa wb : ME} {pos : Pos} (T : TabD G d tb) (ha : PDE G E X a wa) (hb : PDE G E X b wb) (hm : behindInMarks .In b = false := by rfl) (hK : G.K = X.K := by rfl) (hw : G.w = X.w := by first | rfl | assumption) : PDT G E X (.Compare a [.In] [b] pos) (mTest (mOp (dInKD d tb false) wa wb)) := pt_cmp (op_inKD T hK hw) (od_inKD false) ha hb hm
theorem pd_ninKD {a b : Expr} {wa wb : ME} {pos : Pos} (T : TabD G d tb) (ha : PDE G E X a wa) (hb : PDE G E X b wb) (hm : behindInMarks .NotIn b = false := by rfl) (hK : G.K = X.K := by rfl) (hw : G.w = X.w := by first | rfl | assumption) : PDE G E X (.Compare a [.NotIn] [b] pos) (mOp (dInKD d tb true) wa wb) := pd_cmp (op_notInKD T hK hw) (od_inKD true) ha hb hm
theorem pt_ninKD {a b : Expr} {wa wb : ME} {pos : Pos} (T : TabD G d tb) (ha : PDE G E X a wa) (hb : PDE G E X b wb) (hm : behindInMarks .NotIn b = false := by rfl) (hK : G.K = X.K := by rfl) (hw : G.w = X.w := by first | rfl | assumption) : PDT G E X (.Compare a [.NotIn] [b] pos) (mTest (mOp (dInKD d tb true) wa wb)) := pt_cmp (op_notInKD T hK hw) (od_inKD true) ha hb hm
theorem pd_ixKD {a b : Expr} {wa wb : ME} {pos : Pos} (T : TabD G d tb) (ha : PDE G E X a wa) (hb : PDE G E X b wb) (hs : PlainIx b := by intro _ _; rfl) (hK : G.K = X.K := by rfl) (hw : G.w = X.w := by first | rfl | assumption) : PDE G E X (.Subscript a b pos) (mOp (dIxKD d tb) wa wb) :=
  PE.weak (pe_ix (ix_KD T hK hw) ha hb hs) fun _ _ _ h => op_lift od_ixKD h
/-! ## a local name that holds a def -/
@[simp] def mCallT (i : Nat) (tb : List (Addr × DSp)) (w : MA) : ME := fun ρ st R xq => match ρ[i]? with
  | some (some (.raw (.ref f))) => ∃ dsp, (f, dsp) ∈ tb ∧ w ρ st (fun ds st1 => dsp ds st1 R noX) noX
  | _ => False
/-- a def that is called so -/
structure CalT (P : Program) (w : World) (G : Gm) (mg : Str → Option Value) (base : Heap) (k : Nat) (f : Addr) (dsp : DSp) : Prop where
  ex : ∃ fd ps, FnD P w G mg base CX0 k f fd ps dsp ∧ PySem.W.keepIn G.K (.ref f) = true ∧ Binds G.K fd ps []
open Classical in
theorem pd_callT {k i : Nat} {x : Str} {p pos : Pos} {e : Expr} {es : List Expr} {w : MA} {tb : List (Addr × DSp)} (A : ∀ q ∈ tb, CalT X.prog X.w G X.mg X.base k q.1 q.2) (hr : Room k X.A) (ha : ∀ E, PDA G E X (e :: es) w) (hi : X.N[i]? = some x := by rfl) (hv : Vis X.env.scope x := by first | exact Or.inl rfl | exact Or.inr (Or.inl rfl) | exact Or.inr (Or.inr rfl))
    (hdb : (x == ("__debug__" : Str)) = false := by decide) (hcd : (x == ("__classdict__" : Str)) = false := by decide)
    (he : starEach (e :: es) X.env = (false, eval e X.env) :: starEach es X.env := by rfl) (hpl : (backTo pos (starEach es X.env)).any (·.1) = false := by rfl) (hK : G.K = X.K := by rfl) :
    PDE G E X (.Call (.Name x p) (e :: es) [] pos) (mCallT i tb w) := by
  refine ⟨fun pins s σ H Q I h => ?_⟩
  obtain ⟨W, ρ, st, R, xq, rel, re, w1, o⟩ := h
  unfold mCallT at w1
  split at w1
  · rename_i f e1
    obtain ⟨dsp, hm, w1⟩ := w1
    obtain ⟨fd, ps, F, hk, hb⟩ := (A _ hm).ex
    unfold FnD at F
    rw [hK] at F hk hb
    obtain ⟨v, h1, h2⟩ := re.get i _ e1
    obtain rfl : v = V.ref f := h2
    refine (pe_callL (i := i) (f := f) (dvs := []) (E := E0) F hr hi hv hk hb .nil passA (ha E0) hdb hcd he hpl).run pins s σ H Q I ⟨h1, W, ρ, st, _, noX, rel, re, w1, ⟨fun W1 H1 ds vs st1 l1 rel1 rv w2 => ?_, fun _ _ _ _ _ _ z => z.elim⟩⟩
    exact ⟨W1, ds, st1, R, noX, rel1, by rw [List.append_nil]; exact rv, w2, ⟨(o.le l1).rt, fun _ _ _ _ _ _ z => z.elim⟩⟩
  · cases w1
/-! ## a < b < c -/
@[simp] def mChn (r r' : D2) (wa wb wc : ME) : ME := fun ρ st R xq => wa ρ st (fun x st1 => wb ρ st1 (fun y st2 => r x y st2 (fun z st3 => onB z fun k => if k = true then wc ρ st3 (fun u st4 => r' y u st4 R) xq else R (.bl false) st3)) xq) xq
theorem chn_lift {r r' : R2} {d d' : D2} {wa wb wc : ME} (h1 : OpD G r d) (h2 : OpD G r' d') {σ : L2.St} {H : Hp} {Q : VK} (h : tD G E (mChn d d' wa wb wc) σ H Q) : tChain r r' (tD G E wa) (tD G E wb) (tD G E wc) σ H Q := by
  obtain ⟨W, ρ, st, R, xq, rel, re, w, o⟩ := h
  refine ⟨W, ρ, st, _, xq, rel, re, w, ⟨fun W1 H1 dx x st1 l1 rel1 rx w1 => ?_, o.xq⟩⟩
  refine ⟨W1, ρ, st1, _, xq, rel1, re.le l1, w1, ⟨fun W2 H2 dy y st2 l2 rel2 ry w2 => ?_, (o.le l1).xq⟩⟩
  refine h1 E W2 H2 st2 dx dy x y _ xq _ rel2 (rx.le l2) ry w2 ⟨fun W3 H3 dz z st3 l3 rel3 rz w3 => ?_, (o.le (l1.trans l2)).xq⟩
  obtain ⟨k, rfl, w3⟩ := onB_of rz w3
  refine ⟨k, rfl, ?_⟩
  cases k with
  | false => exact o.rt W3 H3 (.bl false) _ st3 (l1.trans (l2.trans l3)) rel3 rfl w3
  | true =>
    refine ⟨W3, ρ, st3, _, xq, rel3, re.le (l1.trans (l2.trans l3)), w3, ⟨fun W4 H4 du u st4 l4 rel4 ru w4 => ?_, (o.le (l1.trans (l2.trans l3))).xq⟩⟩
    exact h2 E W4 H4 st4 dy du y u R xq Q rel4 (ry.le (l3.trans l4)) ru w4 (o.le (l1.trans (l2.trans (l3.trans l4))))
theorem pd_chn {a b c : Expr} {wa wb wc : ME} {op op' : CmpOp} {r r' : R2} {d d' : D2} {pos : Pos} (ho : OpR X (compareOp op) r) (hd : OpD G r d) (ho' : OpR X (compareOp op') r') (hd' : OpD G r' d') (ha : PDE G E X a wa) (hb : PDE G E X b wb) (hc : PDE G E X c wc)
    (hm : lastMarks [op, op'] [b, c] = false := by with_unfolding_all rfl) : PDE G E X (.Compare a [op, op'] [b, c] pos) (mChn d d' wa wb wc) :=
  PE.weak (pe_chain ho ho' ha hb hc hm) fun _ _ _ h => chn_lift hd hd' h
theorem pt_chn {a b c : Expr} {wa wb wc : ME} {op op' : CmpOp} {r r' : R2} {d d' : D2} {pos : Pos} (ho : OpR X (compareOp op) r) (hd : OpD G r d) (ho' : OpR X (compareOp op') r') (hd' : OpD G r' d') (ha : PDE G E X a wa) (hb : PDE G E X b wb) (hc : PDE G E X c wc)
    (hm : lastMarks [op, op'] [b, c] = false := by with_unfolding_all rfl) : PDT G E X (.Compare a [op, op'] [b, c] pos) (mTest (mChn d d' wa wb wc)) :=
  PT.weak (pt_chain ho ho' ha hb hc hm) fun σ H Q ⟨W, ρ, st, R, xq, rel, re, w, o⟩ => chn_lift hd hd' ⟨W, ρ, st, _, xq, rel, re, w, test_out o⟩
/-! ## texts -/
def strLe (i j : Str) : Bool := !decide (j.cps.toList < i.cps.toList)
def rLeS : R2 := fun x y H Q => ∃ i j, x = .str i ∧ y = .str j ∧ Q (.bl (strLe i j)) H
theorem op_leS : OpR X (compareOp .LtE) rLeS := op_le_str
/-- <=, of numbers, of texts -/
@[simp] def dLE : D2 := fun x y st R => match x, y with
  | .int i, .int j => R (.bl (decide (i ≤ j))) st
  | .str i, .str j => R (.bl (strLe i j)) st
  | _, _ => False
def rLE : R2 := fun x y H Q => rI0 (fun i j => .bl (decide (i ≤ j))) x y H Q ∨ rLeS x y H Q
theorem op_LE : OpR X (compareOp .LtE) rLE := op_le.or op_leS
theorem od_LE : OpD G rLE dLE := by
  intro E W H st dx dy x y R xq Q rel rx ry w o
  unfold dLE at w
  split at w
  · simp only [Rp] at rx ry; subst rx ry
    exact .inl ⟨_, _, rfl, rfl, o.rt W H (.bl _) _ st Le.refl rel rfl w⟩
  · simp only [Rp] at rx ry; subst rx ry
    exact .inr ⟨_, _, rfl, rfl, o.rt W H (.bl _) _ st Le.refl rel rfl w⟩
  · cases w
/-- slices: lists, tuples (the whole one is itself), texts -/
def rSLA (K : PySem.W.Frag) : V → Option Int → Option Int → Hp → VK → Prop := fun x lo hi H Q => rSlL K x lo hi H Q ∨ rSlA K x lo hi H Q ∨ rSlS x lo hi H Q
theorem sl_SLA : SlR X (rSLA X.K) := sl_list.or (sl_tupA.or sl_str)
def cutT (z : Str) (lo hi : Option Int) : Str := cutS z lo hi
@[simp] def dSlA (x : D) (lo hi : Option Int) (st : Sto) (R : DQ) : Prop := match dr st x with
  | .lst xs => R (.lst (cutD xs lo hi)) st
  | .scr xs => R (.lst (cutD xs lo hi)) st
  | .tup xs => R (.tup (cutD xs lo hi)) st
  | .str z => z.length ≤ sizeLine ∧ R (.str (cutT z lo hi)) st
  | _ => False
theorem cut_whole {α : Type} {xs : List α} {lo hi : Option Int} (h : HT.sIx xs.length 0 lo = 0 ∧ HT.sIx xs.length xs.length hi = xs.length) : (xs.drop (HT.sIx xs.length 0 lo)).take (HT.sIx xs.length xs.length hi - HT.sIx xs.length 0 lo) = xs := by
  rw [h.1, h.2]; simp
@[simp] def mSlA (we : ME) (wl wh : MO) : ME := fun ρ st R xq => we ρ st (fun x st1 => wl ρ st1 (fun lo st2 => wh ρ st2 (fun hi st3 => dSlA x lo hi st3 R) xq) xq) xq
theorem pd_slA {e : Expr} {lo hi : Option Expr} {we : ME} {wl wh : MO} {pos p2 : Pos} (he : PDE G E X e we) (hl : PDO G E X lo wl) (hh : PDO G E X hi wh) (hK : G.K = X.K := by rfl) : PDE G E X (.Subscript e (.Slice lo hi none p2) pos) (mSlA we wl wh) :=
  PE.weak (pe_slice sl_SLA he hl hh) fun σ H Q ⟨W, ρ, st, R, xq, rel, re, w, o⟩ =>
  ⟨W, ρ, st, _, xq, rel, re, w, ⟨fun W1 H1 d v st1 l1 rel1 rv w1 =>
    ⟨W1, ρ, st1, _, xq, rel1, re.le l1, w1, ⟨fun W2 H2 lo st2 l2 rel2 w2 =>
      ⟨W2, ρ, st2, _, xq, rel2, re.le (l1.trans l2), w2, ⟨fun W3 H3 hi st3 l3 rel3 w3 => by
        have rv3 := rv.le (l2.trans l3)
        have o3 := o.le (l1.trans (l2.trans l3))
        rw [← hK]
        unfold dSlA at w3
        split at w3
        · rename_i xs e
          obtain ⟨p, vs, h1, h2, h3⟩ := dr_lst rel3 rv3 e
          exact .inl ⟨p, vs, h1, SqL.of h2, fun q hq => o3.rt W3 _ (.lst _) _ st3 (Le.fresh hq) (rel3.fresh hq) (newL rel3 hq (cut_rp h3 lo hi)) w3⟩
        · rename_i xs e
          rw [dr_scr e] at rv3
          obtain ⟨p, vs, h1, h2, h3⟩ := scr_sq rv3
          exact .inl ⟨p, vs, h1, h2, fun q hq => o3.rt W3 _ (.lst _) _ st3 (Le.fresh hq) (rel3.fresh hq) (newL rel3 hq (cut_rp h3 lo hi)) w3⟩
        · rename_i xs e
          rw [dr_tup e] at rv3
          obtain ⟨p, vs, h1, h2, h3⟩ := tup_sq rv3
          refine .inr (.inl ⟨p, vs, h1, h2, fun hw => ?_, fun _ q hq => o3.rt W3 _ (.tup _) _ st3 (Le.fresh hq) (rel3.fresh hq) (newT rel3 hq (cut_rp h3 lo hi)) w3⟩)
          rw [h3.length] at hw
          have e2 : cutD xs lo hi = xs := cut_whole hw
          rw [e2] at w3
          exact o3.rt W3 H3 (.tup xs) (.ref p) st3 Le.refl rel3 (by rw [← h1]; exact rv3) w3
        · rename_i z e
          rw [dr_str e] at rv3
          simp only [Rp] at rv3
          exact .inr (.inr ⟨z, rv3, w3.1, o3.rt W3 H3 (.str _) _ st3 Le.refl rel3 rfl w3.2⟩)
        · exact w3.elim, (o.le (l1.trans l2)).xq⟩⟩, (o.le l1).xq⟩⟩, o.xq⟩⟩
/-- sep.join(list of texts) -/
@[simp] def allS (xs : List D) : Option (List Str) := match xs with
  | [] => some []
  | .str b :: r => (allS r).map (b :: ·)
  | _ => none
theorem allS_rp {K : PySem.W.Frag} {W : Wd} {H : Hp} : ∀ {ds : List D} {vs : List V} {bs : List Str}, RpL K W H ds vs → allS ds = some bs → vs = bs.map V.str
  | [], _, bs, h, e => by simp only [RpL] at h; subst h; simp [allS] at e; subst e; rfl
  | d :: ds, vs, bs, h, e => by
    simp only [RpL] at h
    obtain ⟨v, r, rfl, h1, h2⟩ := h
    cases d with
    | str b =>
      simp only [allS, Option.map_eq_some_iff] at e
      obtain ⟨cs, e1, rfl⟩ := e
      simp only [Rp] at h1
      rw [h1, allS_rp h2 e1]; rfl
    | _ => simp [allS] at e
theorem allS_strs : ∀ ns : List Str, allS (ns.map D.str) = some ns
  | [] => rfl
  | n :: ns => by simp [allS, allS_strs ns]
@[simp] def mJoin (wo we : ME) : ME := fun ρ st R xq => wo ρ st (fun x st1 => onS x fun a => we ρ st1 (fun y st2 => onL st2 y fun xs => ∃ ys, allS xs = some ys ∧ (ys.map (·.length)).sum + ys.length * a.length ≤ 16777216 ∧ R (.str (Txt.join a ys)) st2) xq) xq
theorem pd_join {o e : Expr} {wo we : ME} {apos pos : Pos} (ho : PDE G E X o wo) (he : PDE G E X e we) (hs : starEach [e] X.env = [(false, eval e X.env)] := by rfl) (hbase : attributeBase o "join" X.env (eval o X.env) = eval o X.env := by rfl) (hline : (apos.endLine == pos.line) = true := by rfl) (hK : G.K = X.K := by rfl) :
    PDE G E X (.Call (.Attribute o "join" apos) [e] [] pos) (mJoin wo we) :=
  PE.weak (pe_join ho he hs hbase hline) fun σ H Q ⟨W, ρ, st, R, xq, rel, re, w, o⟩ =>
    ⟨W, ρ, st, _, xq, rel, re, w, ⟨fun W1 H1 dx x st1 l1 rel1 rx w1 => by
      obtain ⟨a, rfl, w1⟩ := onS_of rx w1
      refine ⟨⟨a, rfl⟩, W1, ρ, st1, _, xq, rel1, re.le l1, w1, ⟨fun W2 H2 dy y st2 l2 rel2 ry w2 => ?_, (o.le l1).xq⟩⟩
      obtain ⟨p, vs, xs, rfl, h1, h2, ys, e1, hz, w2⟩ := onL_of rel2 ry w2
      obtain rfl := allS_rp h2 e1
      exact ⟨a, p, ys, rfl, rfl, .inl (by rw [← hK]; exact h1), hz, o.rt W2 H2 (.str _) _ st2 (l1.trans l2) rel2 rfl w2⟩, o.xq⟩⟩
end
end DL

set_option Elab.async false
set_option linter.all false
set_option maxRecDepth 100000
set_option autoImplicit false
namespace DL
open PySem PySem.Spec PyProof.Rows L2
/-! ## list.extend of a tuple -/
open AutoSeq1 in
theorem ext_tup (l b : Addr) (n n2 : Nat) (items items2 : Array Value) (dd : Option Addr) (sl : Array (Option Value)) (hs0 : ¬(!items.isEmpty && Builtin.List.listTooLong (items.size + items2.size)) = true) (hs1 : items.size ≤ sizeLine) (hs2 : items.size + items2.size ≤ sizeLine + 1) :
    Meets (Builtin.«list.extend» ⟨[.ref l, .ref b], []⟩) (fun _ R s => s.heap.get? l = some ⟨.type "list", none, .seq items n, #[]⟩ ∧ s.heap.get? b = some ⟨.type "tuple", dd, .seq items2 n2, sl⟩ ∧
      R (.ok (.ret .none)) { s with heap := s.heap.update l (Obj.mapSeq fun z => z ++ items2) }) :=
  .of_wp fun P w A R s h => by
    obtain ⟨hp, g, d, tk, os⟩ := s
    obtain ⟨hl, hb, h⟩ := h
    have f1 := idx_int; have f2 := AutoSeq1.sub_tuple_tuple; have f3 := AutoSeq1.sub_list_list
    have f4 := AutoSeq1.sub_tuple_list; have f5 := AutoSeq1.sub_list_tuple
    have hz' : (items ++ items2).size ≤ sizeLine + 1 := by rw [Array.size_append]; exact hs2
    wp_walk using (wpAny_updateSeq hl rfl (hz := hs1) (_hz' := hz')), wpAny_loadPart' hl, wpAny_loadPart' hb
    exact ⟨_, rfl, h⟩
def rExtT (K : PySem.W.Frag) : V → List V → Hp → VK → Prop := fun x vs H Q => ∃ l b xs zs, x = .ref l ∧ vs = [.ref b] ∧ H l = some (.lst xs) ∧ SqT K H b zs ∧ xs.length + zs.length ≤ sizeLine ∧ Q .non (upd H l (.lst (xs ++ zs)))
def rEXT (K : PySem.W.Frag) : V → List V → Hp → VK → Prop := fun x vs H Q => rExtend x vs H Q ∨ rExtT K x vs H Q
theorem mt_EXT {X : Cx} : MtR X "list.extend" (rEXT X.K) := by
  intro pins s σ H x vs v us Q I rx rv h
  rcases h with h | h
  · exact mt_extend pins s σ H x vs v us Q I rx rv h
  obtain ⟨l, b, xs, zs, rfl, rfl, hH, hT, hz, q⟩ := h
  cases rx
  obtain ⟨u, rfl, ru⟩ := rv.one
  cases ru
  obtain ⟨z, its, n, r, hl, e⟩ := I.lstM hH
  obtain ⟨its2, r2, ⟨⟨cls, dd, data, sl⟩, e2, hc, n2, hd⟩, _⟩ := I.tuple hT
  simp only at hc hd
  subst hc hd
  have l2 := r2.length
  have hsz : its.toArray.size + its2.toArray.size ≤ sizeLine := by rw [List.size_toArray, List.size_toArray]; omega
  refine call_meets F.slot_list_extend ⟨_, e, rfl⟩ F.entry_list_extend (F.args_list_extend_2 _ _) (ext_tup l b n n2 its.toArray its2.toArray dd sl (by rw [notLongL hsz, Bool.and_false]; decide) (by rw [List.size_toArray]; omega) (by omega)) ⟨e, e2, ?_⟩
  refine ⟨.non, _, I.lset (its' := its ++ its2) hH e (by simp) (r.append r2) (by rw [List.length_append]; omega), rfl, q⟩
section
variable {G : Gm} {E : XK} {X : Cx}
@[simp] def dExtA : DM := fun x ds st R => match ds with | [y] => onH st x fun j xs => (match dr st y with | .lst ys => xs.length + ys.length ≤ sizeLine ∧ R .non (st.set j (.lst (xs ++ ys))) | .tup ys => xs.length + ys.length ≤ sizeLine ∧ R .non (st.set j (.lst (xs ++ ys))) | _ => False) | _ => False
theorem md_extA (hK : G.K = X.K) : MeD G (rEXT X.K) dExtA := by
  intro E W H st dx ds x vs R xq Q rel rx rs w o
  rw [← hK]
  unfold dExtA at w
  split at w
  · obtain ⟨v, rfl, rv⟩ := rpl1 rs
    obtain ⟨j, a, xs, us, rfl, h1, h2, h3, w⟩ := onH_of rel rx w
    split at w
    · rename_i ys e
      obtain ⟨b, zs, rfl, h5, h6⟩ := dr_lst rel rv e
      exact .inl ⟨a, b, us, zs, rfl, rfl, h2, h5, by rw [h3.length, h6.length]; exact w.1, o.rt W _ .non _ _ (Le.write (rel.mem h1)) (wrL rel h1 (h3.append h6)) rfl w.2⟩
    · rename_i ys e
      rw [dr_tup e] at rv
      obtain ⟨b, zs, rfl, h5, h6⟩ := tup_sq rv
      exact .inr ⟨a, b, us, zs, rfl, rfl, h2, h5, by rw [h3.length, h6.length]; exact w.1, o.rt W _ .non _ _ (Le.write (rel.mem h1)) (wrL rel h1 (h3.append h6)) rfl w.2⟩
    · cases w
  · cases w
end
/-! ## isinstance by a tuple of built-in types -/
def rIsiQ (K : PySem.W.Frag) : List V → Hp → VK → Prop := fun xs H Q => ∃ (x : V) (tp : Addr) (cs : List V) (t : Value) (us : List Value) (b : Bool), xs = [x, .ref tp] ∧ SqT K H tp cs ∧ Paired ClsV cs us ∧ TyX K H x t ∧ PySem.W.kitAny K t us = some b ∧ Q (.bl b) H
theorem call_isiQ {X : Cx} : CallR X (.builtin "isinstance") (rIsiQ X.K) := by
  intro pins s σ H xs us Q I r h
  obtain ⟨x, tp, cs, t, ws, b, rfl, hT, k, ty, e, q⟩ := h
  obtain ⟨u1, u2, rfl, r1, r2⟩ := vals2 r
  obtain rfl : u2 = Value.ref tp := r2
  obtain ⟨P, Z, p, hx⟩ := kit_of I r1 ty
  obtain ⟨its, ⟨oc, od, dt, sl⟩, n, rv, h1, h2, h3⟩ := sqT_at I.hok I.kIn hT
  have e3 := ClsV.all k rv
  subst e3
  simp only at h2 h3
  subst h2 h3
  exact PySem.W.kia_tup Z I.kIn p h1 e hx fun tk => ⟨.bl b, H, I.tok tk, rfl, q⟩
/-- the answer for one type, for several -/
def kitBs (t : String) : List String → Option Bool
  | [] => some false
  | c :: cs => match kitB t c with
    | some true => some true
    | some false => kitBs t cs
    | none => none
theorem kitBs_any {K : PySem.W.Frag} {t : String} : ∀ {cs : List String} {b : Bool}, kitBs t cs = some b → PySem.W.kitAny K (.type t) (cs.map Value.type) = some b
  | [], b, h => by simp only [kitBs] at h; cases h; exact kitAny_nil
  | c :: cs, b, h => by
    simp only [kitBs] at h
    split at h
    · rename_i e
      cases h
      exact kitAny_cons (kit_ty e) (fun z => by cases z) fun _ => rfl
    · rename_i e
      exact kitAny_cons (kit_ty e) (fun _ => kitBs_any h) fun z => by cases z
    · cases h
theorem cls_tys : ∀ cs : List String, Paired ClsV (cs.map V.ty) (cs.map Value.type)
  | [] => .nil
  | c :: cs => .cons (.ty c) (cls_tys cs)
theorem raws_ty {K : PySem.W.Frag} {W : Wd} {H : Hp} : ∀ {us : List String} {vs : List V}, RpL K W H (us.map fun a => D.raw (.ty a)) vs → vs = us.map V.ty
  | [], vs, h => by simpa only [List.map, RpL] using h
  | u :: us, vs, h => by
    simp only [List.map, RpL, Rp] at h
    obtain ⟨v, r, rfl, rfl, h2⟩ := h
    rw [raws_ty h2]; rfl
section
variable {G : Gm} {E : XK} {X : Cx}
@[simp] def dIsiT (cs : List String) : D1 := fun ds st R => match ds with
  | [x, .tup us] => us = cs.map (fun a => D.raw (.ty a)) ∧ ∃ t b, tyD st x = some t ∧ kitBs t cs = some b ∧ R (.bl b) st
  | _ => False
theorem cd_isiT {cs : List String} (hK : G.K = X.K) : CaD G (rIsiQ X.K) (dIsiT cs) := by
  intro E W H st ds vs R xq Q rel rs w o
  rw [← hK]
  unfold dIsiT at w
  split at w
  · rename_i x us
    obtain ⟨rfl, t, b, h1, h2, w⟩ := w
    obtain ⟨v, u, rfl, rv, ru⟩ := rpl2 rs
    obtain ⟨a, ws, rfl, h3, h4⟩ := tup_sq ru
    obtain rfl := raws_ty h4
    exact ⟨v, a, _, .type t, _, b, rfl, h3, cls_tys cs, tyD_x rel rv h1, kitBs_any h2, o.rt W H (.bl b) _ st Le.refl rel rfl w⟩
  · cases w
end
/-! ## dict(pairs) -/
def mergeD (kvs more : List (Key × D)) : List (Key × D) := more.foldl (fun acc kv => putD acc kv.1 kv.2) kvs
theorem RpK.merge {K : PySem.W.Frag} {W : Wd} {H : Hp} : ∀ {more : List (Key × D)} {ms : List (Key × V)} {kvs : List (Key × D)} {vs : List (Key × V)}, RpK K W H more ms → RpK K W H kvs vs → RpK K W H (mergeD kvs more) (mergeK vs ms)
  | [], ms, kvs, vs, h, h' => by simp only [RpK] at h; subst h; exact h'
  | (k, d) :: more, ms, kvs, vs, h, h' => by
    simp only [RpK] at h
    obtain ⟨v, r, rfl, h1, h2⟩ := h
    show RpK K W H (mergeD (putD kvs k d) more) (mergeK (putK vs k v) r)
    exact RpK.merge h2 (h'.put h1)
/-- a list of pairs, as keys and values -/
@[simp] def pairsD : List D → Option (List (Key × D))
  | [] => some []
  | .tup [k, v] :: r => match toK k, pairsD r with
    | some key, some kvs => some ((key, v) :: kvs)
    | _, _ => none
  | _ => none
theorem pairs_rp {K : PySem.W.Frag} {W : Wd} {H : Hp} : ∀ {ds : List D} {vs : List V} {kvs : List (Key × D)}, RpL K W H ds vs → pairsD ds = some kvs → ∃ (ps : List Addr) (us : List (Key × V)), vs = ps.map V.ref ∧ RpK K W H kvs us ∧ Paired (fun p kv => SqT K H p [kV kv.1, kv.2]) ps us
  | [], vs, kvs, h, e => by
    simp only [RpL] at h
    simp only [pairsD] at e
    cases e
    subst h
    exact ⟨[], [], rfl, by simp only [RpK], .nil⟩
  | d :: ds, vs, kvs, h, e => by
    simp only [RpL] at h
    obtain ⟨v, r, rfl, h1, h2⟩ := h
    unfold pairsD at e
    split at e
    · cases ‹_ :: _ = []›
    · rename_i k x r' heq
      cases heq
      split at e
      · rename_i key kvs' e1 e2
        cases e
        obtain ⟨a, ws, rfl, h3, h4⟩ := tup_sqK h1
        obtain ⟨kv', xv, rfl, q1, q2⟩ := rpl2 h4
        obtain rfl := toK_of q1 e1
        obtain ⟨ps, us, rfl, q3, q4⟩ := pairs_rp h2 e2
        exact ⟨a :: ps, (key, xv) :: us, rfl, ⟨xv, us, rfl, q2, q3⟩, .cons h3 q4⟩
      · cases e
    · cases e
def rDictP (K : PySem.W.Frag) : List V → Hp → VK → Prop := fun xs H Q => ∃ (a : Addr) (ps : List Addr) (kvs : List (Key × V)), xs = [.ref a] ∧ SqL K H a (ps.map V.ref) ∧ Paired (fun p kv => SqT K H p [kV kv.1, kv.2]) ps kvs ∧ ∀ p, H p = none → Q (.ref p) (upd H p (.dK (mergeK [] kvs)))
theorem call_DICTP {X : Cx} (hc : X.calm = true) : CallR X (.type "dict") (rDictP X.K) := call_dictP hc
def rDICT (K : PySem.W.Frag) : List V → Hp → VK → Prop := fun xs H Q => rDict xs H Q ∨ rDictP K xs H Q
section
variable {G : Gm} {E : XK} {X : Cx}
/-- dict(..): a copy of a dict; of a list of pairs -/
@[simp] def dDictA : D1 := fun ds st R => match ds with
  | [d] => (match dr st d with
    | .lst xs => ∃ kvs, pairsD xs = some kvs ∧ R (.hdl st.length) (st ++ [.dK (mergeD [] kvs)])
    | _ => onK st d fun _ kvs => R (.hdl st.length) (st ++ [.dK kvs]))
  | _ => False
theorem cd_dictA (hK : G.K = X.K) : CaD G (rDICT X.K) dDictA := by
  intro E W H st ds vs R xq Q rel rs w o
  rw [← hK]
  unfold dDictA at w
  split at w
  · obtain ⟨v, rfl, rv⟩ := rpl1 rs
    split at w
    · rename_i xs e
      obtain ⟨kvs, e1, w⟩ := w
      obtain ⟨a, us, rfl, h1, h2⟩ := dr_lst rel rv e
      obtain ⟨ps, ws, rfl, h3, h4⟩ := pairs_rp h2 e1
      have h5 := h3.merge (kvs := []) (vs := []) (by simp only [RpK])
      exact .inr ⟨a, ps, ws, rfl, SqL.of h1, h4, fun p hp => o.rt _ _ (.hdl st.length) _ _ (Le.new hp) (newHK rel hp h5).1 (newHK rel hp h5).2 w⟩
    · obtain ⟨j, a, kvs, us, rfl, h1, h2, h3, w⟩ := onK_of rel rv w
      exact .inl ⟨a, us, rfl, h2, fun p hp => o.rt _ _ (.hdl st.length) _ _ (Le.new hp) (newHK rel hp h3).1 (newHK rel hp h3).2 w⟩
  · cases w
theorem call_DICTA (hc : X.calm = true) : CallR X (.type "dict") (rDICT X.K) := (show CallR X (.type "dict") rDict from call_DICT).or (call_DICTP hc)
/-! ## sorted(a dict of numbers) -/
def rSortDI : List V → Hp → VK → Prop := fun xs H Q => ∃ (a : Addr) (kvs : List (Key × V)) (ks : List Int), xs = [.ref a] ∧ Rd H a (.dK kvs) ∧ kvs.map (·.1) = ks.map Sum.inl ∧ ks.length < 64 ∧ ∀ (ys : List Int) (p : Addr), ys.Perm ks → ys.Pairwise (· ≤ ·) → H p = none → Q (.ref p) (upd H p (.lst (ys.map V.int)))
theorem call_SORTDI (hc : X.calm = true) : CallR X (.builtin "sorted") rSortDI := call_sortedDI hc
@[simp] def keysI : List (Key × D) → Option (List Int)
  | [] => some []
  | (.inl i, _) :: r => (keysI r).map (i :: ·)
  | _ => none
theorem keysI_rp {K : PySem.W.Frag} {W : Wd} {H : Hp} : ∀ {kvs : List (Key × D)} {vs : List (Key × V)} {ks : List Int}, RpK K W H kvs vs → keysI kvs = some ks → vs.map (·.1) = ks.map Sum.inl ∧ ks.length = kvs.length
  | [], vs, ks, h, e => by simp only [RpK] at h; simp only [keysI] at e; cases e; subst h; exact ⟨rfl, rfl⟩
  | (k, d) :: kvs, vs, ks, h, e => by
    simp only [RpK] at h
    obtain ⟨v, r, rfl, h1, h2⟩ := h
    cases k with
    | inl i =>
      simp only [keysI, Option.map_eq_some_iff] at e
      obtain ⟨ks', e1, rfl⟩ := e
      obtain ⟨q1, q2⟩ := keysI_rp h2 e1
      exact ⟨by simp [q1], by simp [q2]⟩
    | inr x => simp [keysI] at e
/-- sorted(..) of a dict's numbers -/
@[simp] def dSortK : D1 := fun ds st R => match ds with
  | [d] => onK st d fun _ kvs => ∃ ks, keysI kvs = some ks ∧ ks.length < 64 ∧ ∀ ys : List Int, ys.Perm ks → ys.Pairwise (· ≤ ·) → R (.lst (ys.map D.int)) st
  | _ => False
theorem cd_sortK : CaD G rSortDI dSortK := by
  intro E W H st ds vs R xq Q rel rs w o
  unfold dSortK at w
  split at w
  · obtain ⟨v, rfl, rv⟩ := rpl1 rs
    obtain ⟨j, a, kvs, us, rfl, h1, h2, h3, ks, e, hl, w⟩ := onK_of rel rv w
    obtain ⟨q1, q2⟩ := keysI_rp h3 e
    exact ⟨a, us, ks, rfl, .inl h2, q1, hl, fun ys p h4 h5 hp => o.rt W _ (.lst _) _ st (Le.fresh hp) (rel.fresh hp) (newL rel hp (RpL.of_ints ys)) (w ys h4 h5)⟩
  · cases w
/-! ## tuples: +, * -/
def rADDT (K : PySem.W.Frag) : R2 := fun x y H Q => rADD x y H Q ∨ rCatA K x y H Q
theorem op_ADDT : OpR X (binaryOp .Add) (rADDT X.K) := op_ADD.or op_catA
@[simp] def dAddA : D2 := fun x y st R => match dr st x, dr st y with
  | .int i, .int j => R (.int (i + j)) st
  | .str i, .str j => i.length + j.length ≤ sizeLine ∧ R (.str (i ++ j)) st
  | .lst a, .lst b => a.length + b.length ≤ sizeLine ∧ R (.lst (a ++ b)) st
  | .tup a, .tup b => a.length + b.length ≤ sizeLine ∧ R (.tup (a ++ b)) st
  | _, _ => False
theorem od_addA (hK : G.K = X.K) : OpD G (rADDT X.K) dAddA := by
  intro E W H st dx dy x y R xq Q rel rx ry w o
  rw [← hK]
  by_cases ht : ∃ a b, dr st dx = .tup a ∧ dr st dy = .tup b
  · obtain ⟨a, b, e1, e2⟩ := ht
    simp only [dAddA, e1, e2] at w
    rw [dr_tup e1] at rx
    rw [dr_tup e2] at ry
    obtain ⟨p, vs, rfl, h1, h2⟩ := tup_sq rx
    obtain ⟨q, us, rfl, h3, h4⟩ := tup_sq ry
    refine .inr ⟨p, q, vs, us, rfl, rfl, h1, h3, by rw [h2.length, h4.length]; exact w.1, fun hx => ?_, fun hx hy => ?_, fun _ _ r hr => o.rt W _ (.tup (a ++ b)) _ st (Le.fresh hr) (rel.fresh hr) (newT rel hr (h2.append h4)) w.2⟩
    · have : a = [] := by have := h2.length; rw [hx] at this; exact List.eq_nil_of_length_eq_zero this.symm
      subst this
      exact o.rt W H (.tup b) _ st Le.refl rel ry w.2
    · have : b = [] := by have := h4.length; rw [hy] at this; exact List.eq_nil_of_length_eq_zero this.symm
      subst this
      rw [List.append_nil] at w
      exact o.rt W H (.tup a) _ st Le.refl rel rx w.2
  · refine .inl (od_add E W H st dx dy x y R xq Q rel rx ry ?_ o)
    unfold dAddA at w
    unfold dAdd
    split at w
    · rename_i e1 e2; simp only [e1, e2]; exact w
    · rename_i e1 e2; simp only [e1, e2]; exact w
    · rename_i e1 e2; simp only [e1, e2]; exact w
    · rename_i e1 e2; exact (ht ⟨_, _, e1, e2⟩).elim
    · cases w
def rMULT (K : PySem.W.Frag) : R2 := fun x y H Q => rMUL x y H Q ∨ rRepT K x y H Q
theorem op_MULT : OpR X (binaryOp .Mult) (rMULT X.K) := op_MUL.or op_repT
@[simp] def dMulA : D2 := fun x y st R => match dr st x, y with
  | .int i, .int j => CMulX i j ∧ R (.int (i * j)) st
  | .lst a, .int k => -(2 ^ 63) ≤ k ∧ k < 2 ^ 63 ∧ a.length * k.toNat ≤ sizeLine ∧ R (.lst (List.replicate k.toNat a).flatten) st
  | .tup a, .int k => a ≠ [] ∧ 2 ≤ k ∧ k ≤ 1000 ∧ a.length ≤ 1000 ∧ R (.tup (List.replicate k.toNat a).flatten) st
  | _, _ => False
theorem od_mulA (hK : G.K = X.K) : OpD G (rMULT X.K) dMulA := by
  intro E W H st dx dy x y R xq Q rel rx ry w o
  rw [← hK]
  unfold dMulA at w
  split at w
  · rename_i i j e1
    exact .inl (od_mul E W H st dx _ x y R xq Q rel rx ry (by unfold dMul; simp only [e1]; exact w) o)
  · rename_i a k e1
    exact .inl (od_mul E W H st dx _ x y R xq Q rel rx ry (by unfold dMul; simp only [e1]; exact w) o)
  · rename_i a k e1
    rw [dr_tup e1] at rx
    obtain ⟨p, vs, rfl, h1, h2⟩ := tup_sq rx
    simp only [Rp] at ry
    obtain ⟨w1, w2, w3, w4, w5⟩ := w
    refine .inr ⟨p, k, vs, rfl, ry, h1, fun z => ?_, w2, w3, by rw [h2.length]; exact w4, fun r hr => o.rt W _ (.tup _) _ st (Le.fresh hr) (rel.fresh hr) (newT rel hr (h2.rep _)) w5⟩
    have := h2.length
    rw [z] at this
    exact w1 (List.eq_nil_of_length_eq_zero this.symm)
  · cases w
end
end DL

set_option Elab.async false
set_option linter.all false
set_option maxRecDepth 100000
set_option autoImplicit false
namespace L2
open PySem PySem.Spec PyProof.Rows
/-! ## o.m(e, .., k = v, ..) -/
def tMethN (C : Addr) (m : Str) (n j : Nat) (sp : Sp) (gV : List V → List V → List V) (E : XK) (ta : TE) (t tk : TA) : TE := fun σ H Q => ta σ H fun x H1 => ∃ a dx fs, x = .ref a ∧ H1 a = some (.ins C dx fs) ∧ fs.lookup m = none ∧
  t σ H1 fun vs H2 => tk σ H2 fun zs H3 => (x :: vs).length = n ∧ zs.length = j ∧ sp (gV (x :: vs) zs) H3 Q E
theorem pe_methN {X : Cx} {CX : CXT} {k n : Nat} {f C : Addr} {fd : FuncData} {ps ks : List Str} {sp : Sp} {E : XK} {m : Str} {o e : Expr} {es : List Expr} {kws : List Keyword} {pos apos : Pos} {ta : TE} {t tk : TA} {g : List Value → List Value → List Value} {gV : List V → List V → List V} {pl : Sem Bool}
    (he : PE X o ta) (c : Cls X.K C) (hm : Meth X.K C m f) (F : FnOk X.prog X.w X.K X.mg X.base CX k f fd ps sp) (hr : Room k X.A) (hb : KBn X.K fd ps n ks g gV) (hx : Passes CX X E) (ha : PA X (e :: es) t) (hkw : PK X kws tk)
    (hall : (backToKw pos (keywordEach kws X.env)).all (·.1.isSome) = true := by rfl) (hks : (backToKw pos (keywordEach kws X.env)).filterMap (·.1) = ks := by rfl)
    (hst : starEach (e :: es) X.env = (false, eval e X.env) :: starEach es X.env := by rfl) (hpl : ((backTo pos (starEach (e :: es) X.env)).any (·.1) || (backToKw pos (keywordEach kws X.env)).any (·.1.isNone)) = false := by rfl)
    (ht : eval (.Call (.Attribute o m apos) (e :: es) kws pos) X.env = (do
      let ov ← eval o X.env
      standAt apos.atName
      let (f, first) ← holding [ov] (getMethod ov m pl)
      callWith pos f first (backTo pos (starEach (e :: es) X.env)) (backToKw pos (keywordEach kws X.env))) := by rfl) :
    PE X (.Call (.Attribute o m apos) (e :: es) kws pos) (tMethN C m n ks.length sp gV E ta t tk) := by
  refine ⟨fun pins s σ H Q I h => PySem.W.methodCall_KW (pl := pl) (thn (he.run pins s σ H _ I h) fun u s1 ⟨x, H1, I1, rx, a, dx, fs, ex, ea, l, q⟩ => ?_) ht⟩
  subst ex
  obtain rfl : u = Value.ref a := rx
  refine getmeth_ok I1 ea c hm l (PySem.W.callWith_KW (first := [.ref a]) (h₀ := X.base) I.ok.mod.kin hm.kp hall (thn (ha.run pos pins s1 σ H1 _ I1 q) fun us s2 ⟨vs, H2, I2, r, q2⟩ => ?_) hpl hst)
  refine thn (hkw.run pos pins s2 σ H2 _ I2 q2) fun ws s3 ⟨zs, H3, I3, rz, l1, l2, q3⟩ => ⟨I3.kIn, ?_⟩
  rw [hks]
  exact run_fnN (us := .ref a :: us) (vs := .ref a :: vs) F hr hb hx I3 (.cons rfl r) rz l1 l2 q3
/-- values that fill up -/
theorem KBn.of_binds {K : PySem.W.Frag} {fd : FuncData} {ps : List Str} {ds : List Value} {dvs : List V} (n : Nat) (b : Binds K fd ps ds) (hd : Vals dvs ds) (hn : n + dvs.length = ps.length) : KBn K fd ps n [] (fun us ws => us ++ ds) (fun vs zs => vs ++ dvs) :=
  ⟨fun s us ws X l1 _ => b s us X (by rw [List.length_append, ← hd.length]; omega), fun r _ => r.append hd⟩
/-! ## sorted of pairs whose first parts are texts, all unlike -/
def IsPS (h : Heap) (v : Value) (x : Str) : Prop := ∃ a o t y n, v = .ref a ∧ h.get? a = some o ∧ o.cls = .type "tuple" ∧ o.data = .seq #[.str x t, y] n
theorem IsPS.keeps {h h' : Heap} {v : Value} {x : Str} (p : IsPS h v x) (k : ∀ b o, h.get? b = some o → o.cls = .type "tuple" → h'.get? b = some o) : IsPS h' v x := by
  obtain ⟨a, o, t, y, n, e, ho, hc, hd⟩ := p
  exact ⟨a, o, t, y, n, e, k _ _ ho hc, hc, hd⟩
def ltT (x y : Str) : Bool := decide (x.cps.toList < y.cps.toList)
theorem ltT_irr (x : Str) : ltT x x = false := by unfold ltT; exact decide_eq_false (List.lt_irrefl _)
theorem ltT_swo {α : Type} (k : α → Str) : SrtO.Swo fun x y => ltT (k x) (k y) := by
  refine ⟨fun x y h => ?_, fun x y z h1 h2 => ?_⟩
  · unfold ltT at h ⊢
    exact decide_eq_false (List.lt_asymm (of_decide_eq_true h))
  · unfold ltT at h1 h2 ⊢
    exact decide_eq_false fun q => (List.not_lt.mpr (Std.le_trans (List.not_lt.mp (of_decide_eq_false h1)) (List.not_lt.mp (of_decide_eq_false h2)))) q
open SrtO Srt in
theorem ps_cmp {prog : Program} {w : World} {A : Around} {s : Shared} {vs : List Value} {k : Value → Str} (hp : ∀ v ∈ vs, IsPS s.heap v (k v)) (hu : ∀ v ∈ vs, ∀ u ∈ vs, k v = k u → v = u) : SrtO.Cmp prog w A s (tuples' true) (fun p => p.1 ∈ vs) (lt2 fun v u => ltT (k v) (k u)) := by
  intro p q hm hm'
  have h1 := hp _ hm
  have h2 := hp _ hm'
  have h3 := hu _ hm _ hm'
  show wpAny (model prog w) A (keyLt' (tuples' true) p.1 q.1) (fun r s' => s' = s ∧ r = ltT (k p.1) (k q.1)) (fun _ _ => False) s
  generalize k p.1 = x at h1 h3 ⊢
  generalize k q.1 = x' at h2 h3 ⊢
  obtain ⟨a, o, t, y, n, e, ho, hc, hd⟩ := h1
  obtain ⟨a', o', t', y', n', e', ho', hc', hd'⟩ := h2
  rw [e, e'] at h3 ⊢
  refine PySem.W.kat_lt ho hd ho' hd' ?_
  show PySem.W.KatLex prog w A true (decide (2 < 2)) _ [(.str x t, .str x' t'), (y, y')] 0 s
  refine PySem.W.kat_cons (SeqAt.EqAt.str_str x t x' t' prog w _ _ ?_)
  refine PySem.W.kat_go (fun e1 => ?_) (fun e1 => ?_)
  · have ex : x = x' := by simpa using e1
    have ea := h3 ex
    cases ea
    rw [ho] at ho'; cases ho'
    rw [hd] at hd'
    injection hd' with q1 _
    have q2 : y = y' := by
      have := congrArg (fun (z : Array Value) => z[1]?) q1
      simpa using this
    subst ex q2
    refine PySem.W.kat_yes (PySem.W.kat_cons (SeqAt.EqAt.same y prog w _ _ ?_))
    refine PySem.W.kat_go (fun _ => PySem.W.kat_yes (PySem.W.kat_nil ⟨rfl, (ltT_irr x).symm⟩)) fun z => by cases z
  · exact PySem.W.kat_no (oneLt_str ⟨rfl, rfl⟩)
theorem ps_firsts {h : Heap} : ∀ {vs : List Value}, (∀ v ∈ vs, ∃ x, IsPS h v x) → ∃ fs : List Value, PySem.W.KatTups h vs fs ∧ fs.length = vs.length ∧ ∀ f ∈ fs, ∃ x t, f = Value.str x t
  | [], _ => ⟨[], PySem.W.KatTups.nil, rfl, fun _ hm => by simp at hm⟩
  | v :: vs, hp => by
    obtain ⟨fs, h1, h2, h3⟩ := ps_firsts (vs := vs) fun v' hm => hp v' (by simp [hm])
    obtain ⟨x, a, o, t, y, n, rfl, ho, hc, hd⟩ := hp v (by simp)
    refine ⟨.str x t :: fs, PySem.W.KatTups.cons ho hc hd rfl h1, by simp [h2], fun f hm => ?_⟩
    rcases List.mem_cons.mp hm with rfl | hm
    · exact ⟨x, t, rfl⟩
    · exact h3 f hm
theorem ps_sortable {prog : Program} {w : World} {A : Around} {s : Shared} {a : Addr} {vs : List Value} {k : Value → Str} (h0 : 0 < vs.length) (hp : ∀ v ∈ vs, IsPS s.heap v (k v)) (hu : ∀ v ∈ vs, ∀ u ∈ vs, k v = k u → v = u) (ha : ∀ o, s.heap.get? a = some o → o.cls ≠ .type "tuple") : SrtO.SortableO prog w A s a vs fun v u => ltT (k v) (k u) := by
  intro h' keep
  have hp' : ∀ v ∈ vs, IsPS h' v (k v) := fun v hm => (hp v hm).keeps fun b o e c => keep b o (fun z => by subst z; exact ha o e c) e
  obtain ⟨fs, h1, h2, h3⟩ := ps_firsts fun v hm => ⟨_, hp' v hm⟩
  refine ⟨_, fun Q E hq => ?_, ps_cmp hp' hu⟩
  refine PySem.W.kat_kind (T := .type "str") h1 (by omega) (fun f hm => ?_) (by rfl) ?_
  · obtain ⟨x, t, rfl⟩ := h3 f hm
    exact PySem.W.Looks.now
  · have e : (Value.type "str" != Value.type "tuple") = true := by first | decide +kernel | rfl | decide
    rw [e]; exact hq
/-- sorted(xs), xs a list of pairs (text, anything), the texts unlike -/
def rSortPS (K : PySem.W.Frag) : List V → Hp → VK → Prop := fun vs H Q => ∃ (a : Addr) (xs : List V) (ks : List Str), vs = [V.ref a] ∧ SqL K H a xs ∧ Paired (fun x z => ∃ t y, x = V.ref t ∧ SqT K H t [.str z, y]) xs ks ∧ ks.Nodup ∧
  ∀ (l : List (V × Str)) p, l.Perm (xs.zip ks) → l.Pairwise (fun x y => ltT y.2 x.2 = false) → H p = none → Q (.ref p) (upd H p (.lst (l.map (·.1))))
open Classical in
theorem cr_sortPS {X : Cx} : CallR X (.builtin "sorted") (rSortPS X.K) := by
  intro pins s σ H vs us Q I r h
  obtain ⟨a, xs, ks, rfl, hs, hxk, hnd, q⟩ := h
  obtain ⟨k, hk⟩ : ∃ k : V → Str, ∀ x z t y, x = V.ref t → SqT X.K H t [.str z, y] → k x = z := by
    refine ⟨fun x => if h : ∃ z t y, x = V.ref t ∧ SqT X.K H t [.str z, y] then h.choose else ⟨#[]⟩, fun x z t y e ht => ?_⟩
    have h : ∃ z t y, x = V.ref t ∧ SqT X.K H t [.str z, y] := ⟨z, t, y, e, ht⟩
    simp only [dif_pos h]
    obtain ⟨t', y', e', ht'⟩ := h.choose_spec
    rw [e] at e'; cases e'
    have := I.tuple_inj ht ht'
    injection this with q1 _
    injection q1 with q1
    exact q1.symm
  have hzip : xs.zip ks = xs.map fun x => (x, k x) := by
    clear hnd q hs
    induction hxk with
    | nil => rfl
    | @cons x z xs ks h t ih =>
      obtain ⟨t', y, e, ht⟩ := h
      rw [List.zip_cons_cons, List.map_cons, ih, hk x z t' y e ht]
  have hkk : xs.map k = ks := by
    clear hnd q hs hzip
    induction hxk with
    | nil => rfl
    | @cons x z xs ks h t ih =>
      obtain ⟨t', y, e, ht⟩ := h
      rw [List.map_cons, ih, hk x z t' y e ht]
  have hx : ∀ x ∈ xs, ∃ t y, x = V.ref t ∧ SqT X.K H t [.str (k x), y] := by
    clear hnd q hs hzip hkk
    induction hxk with
    | nil => intro x hx; cases hx
    | @cons x z xs ks h t ih =>
      intro x' hx'
      rcases List.mem_cons.mp hx' with rfl | hx'
      · obtain ⟨t', y, e, ht⟩ := h
        exact ⟨t', y, e, by rw [hk _ z t' y e ht]; exact ht⟩
      · exact ih x' hx'
  have hu : ∀ x ∈ xs, ∀ y ∈ xs, k x = k y → x = y := by
    intro x hx y hy e
    obtain ⟨i, hi, rfl⟩ := List.mem_iff_getElem.mp hx
    obtain ⟨j, hj, rfl⟩ := List.mem_iff_getElem.mp hy
    have : i = j := by
      rw [← hkk] at hnd
      exact (List.getElem_inj (h₀ := by simpa using hi) (h₁ := by simpa using hj) hnd).mp (by simpa using e)
    subst this; rfl
  obtain ⟨its, rv, hl, hz⟩ := I.list hs
  obtain ⟨u, rfl, ru⟩ := vals1 r
  obtain rfl : u = Value.ref a := ru
  obtain ⟨e1, e2⟩ := refs_back rv fun x m => by
    obtain ⟨t, _, e, _⟩ := hx x m
    exact ⟨t, e⟩
  have hm : ∀ t, Value.ref t ∈ its → V.ref t ∈ xs := fun t hv => by rw [e1]; exact List.mem_map.mpr ⟨_, hv, rfl⟩
  refine SrtO.sorted_ord (ltT_swo fun u => k (backV u)) hl.isList (by rw [← rv.length]; exact hz) (fun h2 h₁ a' ha kk => ?_) fun out h1 h2 => ?_
  · refine ps_sortable (s := { s with heap := h₁ }) (k := fun u => k (backV u)) (by omega) (fun v hv => ?_) (fun v hv v' hv' ek => ?_) fun o e => ?_
    · obtain ⟨t, rfl⟩ := e2 v hv
      obtain ⟨t', y, e, ht⟩ := hx _ (hm t hv)
      cases e
      obtain ⟨its2, r2, ⟨o, ho, hc, n, hd⟩, _⟩ := I.tuple ht
      obtain ⟨u1, u2, rfl, ⟨t1, rfl⟩, rj⟩ := vals2 r2
      exact ⟨t, o, t1, u2, n, rfl, (kk _ _ ho).2, hc, hd⟩
    · obtain ⟨t, rfl⟩ := e2 v hv
      obtain ⟨t', rfl⟩ := e2 v' hv'
      have := hu _ (hm t hv) _ (hm t' hv') ek
      cases this; rfl
    · have e' : some o = some (seqObj "list" its.toArray 0) := e.symm.trans ha
      cases e'
      intro c
      exact absurd (Value.type.inj c) (by decide)
  · have h3 : ∀ u ∈ out, ∃ a, u = Value.ref a := fun u hu => e2 u (h2.perm.mem_iff.mp hu)
    obtain ⟨n, hn⟩ := PyProof.Rows.sortedAll_at s.heap its out.toArray
    have hb : (out.map backV).Perm xs := by rw [e1]; exact h2.perm.map backV
    refine ⟨.ref (s.heap.objs.size + 1), upd H (s.heap.objs.size + 1) (.lst (out.map backV)), I.laid (t' := s.toks) (fun b o e => PyProof.Rows.sortedAll_old e) (Nat.le_succ _) ⟨?_, out, n, vals_back h3, hn⟩, rfl, ?_⟩
    · rw [hb.length_eq]; exact hz
    · have := q ((out.map backV).map fun x => (x, k x)) (s.heap.objs.size + 1) (by rw [hzip]; exact hb.map _) (List.pairwise_map.mpr (List.pairwise_map.mpr h1)) (I.hok.fresh (Nat.le_succ _))
      rw [List.map_map] at this
      have e9 : (out.map backV).map ((fun x : V × Str => x.1) ∘ fun x => (x, k x)) = out.map backV := by
        rw [show ((fun x : V × Str => x.1) ∘ fun x => (x, k x)) = id from rfl, List.map_id]
      rw [e9] at this
      exact this
end L2
namespace DL
open PySem PySem.Spec PyProof.Rows L2
theorem perm_map_inv {α β : Type} (f : α → β) : ∀ {l' m : List β}, l'.Perm m → ∀ {T : List α}, m = T.map f → ∃ T' : List α, T'.Perm T ∧ l' = T'.map f := by
  intro l' m h
  induction h with
  | nil => intro T e; exact ⟨[], by cases T with | nil => exact .nil | cons _ _ => simp at e, rfl⟩
  | cons x _ ih =>
    intro T e
    cases T with
    | nil => simp at e
    | cons t T =>
      simp only [List.map_cons, List.cons.injEq] at e
      obtain ⟨rfl, e⟩ := e
      obtain ⟨T', h1, rfl⟩ := ih e
      exact ⟨t :: T', h1.cons t, rfl⟩
  | swap x y l =>
    intro T e
    cases T with
    | nil => simp at e
    | cons t T =>
      cases T with
      | nil => simp at e
      | cons t2 T =>
        simp only [List.map_cons, List.cons.injEq] at e
        obtain ⟨rfl, rfl, rfl⟩ := e
        exact ⟨t2 :: t :: T, .swap _ _ _, rfl⟩
  | trans _ _ ih1 ih2 =>
    intro T e
    obtain ⟨T1, h1, e1⟩ := ih2 e
    obtain ⟨T2, h2, e2⟩ := ih1 e1
    exact ⟨T2, h2.trans h1, e2⟩
def pairD (p : Str × D) : D := .tup [.str p.1, p.2]
section
variable {G : Gm} {E : XK} {X : Cx}
/-- sorted(pairs), the texts unlike -/
@[simp] def dSortP : D1 := fun ds st R => match ds with
  | [d] => onL st d fun xs => ∃ ps : List (Str × D), xs = ps.map pairD ∧ (ps.map (·.1)).Nodup ∧ ∀ qs : List (Str × D), qs.Perm ps → qs.Pairwise (fun p q => ltT q.1 p.1 = false) → R (.lst (qs.map pairD)) st
  | _ => False
theorem cd_sortP (hK : G.K = X.K) : CaD G (rSortPS X.K) dSortP := by
  intro E W H st ds vs R xq Q rel rs w o
  rw [← hK]
  unfold dSortP at w
  split at w
  · obtain ⟨v, rfl, rv⟩ := rpl1 rs
    obtain ⟨a, vs, xs, rfl, h1, h2, ps, rfl, hn, w⟩ := onL_of rel rv w
    have hp : Paired (fun x z => ∃ t y, x = V.ref t ∧ SqT G.K H t [.str z, y]) vs (ps.map (·.1)) := by
      clear hn w h1
      induction ps generalizing vs with
      | nil => simp only [List.map_nil, RpL] at h2; subst h2; exact .nil
      | cons p ps ih =>
        simp only [List.map_cons, RpL] at h2
        obtain ⟨v, r, rfl, q1, q2⟩ := h2
        unfold pairD at q1
        obtain ⟨t, us, rfl, q3, q4⟩ := tup_sq q1
        obtain ⟨x, y, rfl, q5, q6⟩ := rpl2 q4
        obtain rfl : x = V.str p.1 := q5
        exact .cons ⟨t, y, rfl, q3⟩ (ih _ q2)
    have hl := h2.length
    rw [List.length_map] at hl
    have hz : vs.zip (ps.map (·.1)) = (vs.zip ps).map fun t => (t.1, t.2.1) := by
      rw [List.zip_map_right]; rfl
    refine ⟨a, vs, _, rfl, h1, hp, hn, fun l p hl' hs hp' => ?_⟩
    obtain ⟨T', t1, rfl⟩ := perm_map_inv _ hl' hz
    have hq : ((T'.map (·.2)) : List (Str × D)).Perm ps := by
      have := t1.map (fun t : V × (Str × D) => t.2)
      rw [List.map_snd_zip (by omega)] at this
      exact this
    rw [List.map_map]
    have e0 : T'.map ((fun x : V × Str => x.1) ∘ fun t => (t.1, t.2.1)) = T'.map (·.1) := rfl
    rw [e0]
    have hrp : ∀ t ∈ vs.zip ps, Rp G.K W H (pairD t.2) t.1 := by
      clear hn w h1 hp hl' hs hq hz t1 e0 hl
      induction ps generalizing vs with
      | nil => intro t ht; simp at ht
      | cons p ps ih =>
        simp only [List.map_cons, RpL] at h2
        obtain ⟨v, r, rfl, q1, q2⟩ := h2
        intro t ht
        rw [List.zip_cons_cons] at ht
        rcases List.mem_cons.mp ht with rfl | ht
        · exact q1
        · exact ih r q2 t ht
    have hrl : RpL G.K W H ((T'.map (·.2)).map pairD) (T'.map (·.1)) := by
      have : ∀ t ∈ T', Rp G.K W H (pairD t.2) t.1 := fun t ht => hrp t (t1.mem_iff.mp ht)
      clear t1 hl' hs hq e0
      induction T' with
      | nil => exact RpL.nil
      | cons t T' ih => exact RpL.cons (this t (by simp)) (ih fun t' h => this t' (by simp [h]))
    refine o.rt W _ (.lst _) _ st (Le.fresh hp') (rel.fresh hp') (newL rel hp' hrl) (w _ hq ?_)
    exact List.pairwise_map.mpr (List.pairwise_map.mp hs)
  · cases w
/-! ## methods with defaults and keywords -/
/-- n values by place (the instance first), keywords ks; pre: defaults ahead of the keywords', post: behind them -/
structure CalG (P : Program) (w : World) (G : Gm) (mg : Str → Option Value) (base : Heap) (k : Nat) (C : Addr) (N : List Str) (m : Str) (n : Nat) (ks : List Str) (pre post : List D) (dsp : DSp) : Prop where
  T : ClsD G C N
  no : m ∉ N
  ex : ∃ f fd ps g gV, FnD P w G mg base CX0 k f fd ps dsp ∧ Meth G.K C m f ∧ KBn G.K fd ps n ks g gV ∧ ∀ W H ds vs zs us, RpL G.K W H ds vs → RpL G.K W H zs us → RpL G.K W H (ds ++ pre ++ zs ++ post) (gV vs us)
@[simp] def mMethG (C : Addr) (n j : Nat) (pre post : List D) (dsp : DSp) (we : ME) (wa wk : MA) : ME := fun ρ st R xq => we ρ st (fun x st1 => (onO st1 x C fun _ _ => True) ∧ wa ρ st1 (fun ds st2 => wk ρ st2 (fun zs st3 => (x :: ds).length = n ∧ zs.length = j ∧ dsp (x :: ds ++ pre ++ zs ++ post) st3 R xq) xq) xq) xq
theorem pd_methG {k n j : Nat} {ks : List Str} {pre post : List D} {C : Addr} {N : List Str} {m : Str} {dsp : DSp} {o e : Expr} {es : List Expr} {kws : List Keyword} {we : ME} {wa wk : MA} {pos apos : Pos} {pl : Sem Bool} (c : CalG X.prog X.w G X.mg X.base k C N m n ks pre post dsp) (hr : Room k X.A) (ho : PDE G E X o we) (ha : PDA G E X (e :: es) wa) (hkw : PDK G E X kws wk) (hj : ks.length = j := by rfl)
    (hall : (backToKw pos (keywordEach kws X.env)).all (·.1.isSome) = true := by rfl) (hks : (backToKw pos (keywordEach kws X.env)).filterMap (·.1) = ks := by rfl)
    (hst : starEach (e :: es) X.env = (false, eval e X.env) :: starEach es X.env := by rfl) (hpl : ((backTo pos (starEach (e :: es) X.env)).any (·.1) || (backToKw pos (keywordEach kws X.env)).any (·.1.isNone)) = false := by rfl)
    (ht : eval (.Call (.Attribute o m apos) (e :: es) kws pos) X.env = (do
      let ov ← eval o X.env
      standAt apos.atName
      let (f, first) ← holding [ov] (getMethod ov m pl)
      callWith pos f first (backTo pos (starEach (e :: es) X.env)) (backToKw pos (keywordEach kws X.env))) := by rfl) (hK : G.K = X.K := by rfl) :
    PDE G E X (.Call (.Attribute o m apos) (e :: es) kws pos) (mMethG C n j pre post dsp we wa wk) := by
  subst hj
  obtain ⟨f, fd, ps, g, gV, F, hm, hb, hg⟩ := c.ex
  unfold FnD at F
  have hc := c.T.cl
  rw [hK] at F hm hb hc
  exact PE.weak (pe_methN (pl := pl) ho hc hm F hr hb passA ha hkw hall hks hst hpl ht) fun σ H Q ⟨W, ρ, st, R, xq, rel, re, w, o⟩ =>
    ⟨W, ρ, st, _, xq, rel, re, w, ⟨fun W1 H1 dx x st1 l1 rel1 rx w1 => by
      obtain ⟨i, a, dd, fs, vs, rfl, h1, h2, h3, _⟩ := onO_of rel1 rx w1.1
      rw [c.T.Γ] at h3
      refine ⟨a, dd, vs, rfl, h2, h3.no c.no, W1, ρ, st1, _, xq, rel1, re.le l1, w1.2, ⟨fun W2 H2 ds us st2 l2 rel2 rus w2 => ?_, (o.le l1).xq⟩⟩
      refine ⟨W2, ρ, st2, _, xq, rel2, re.le (l1.trans l2), w2, ⟨fun W3 H3 zs ws st3 l3 rel3 rz w3 => ?_, (o.le (l1.trans l2)).xq⟩⟩
      obtain ⟨n1, n2, w3⟩ := w3
      have r2 := RpL.cons (rx.le (l2.trans l3)) (rus.le l3)
      exact ⟨by rw [r2.length]; exact n1, by rw [rz.length]; exact n2, W3, _, st3, R, xq, rel3, hg _ _ _ _ _ _ r2 rz, w3, o.le (l1.trans (l2.trans l3))⟩, o.xq⟩⟩
/-! ## a dict walked within a comprehension -/
def keyD : Key → D | .inl i => .int i | .inr x => .str x
/-- the dict at a handle is locked meanwhile -/
@[simp] def mLockE (w : ME) : ME := fun ρ st R _ => ∃ j kvs, st[j]? = some (.dK kvs) ∧ ∀ o us, w ρ (st.set j (.fK o us kvs)) (fun d st' => st'[j]? = some (.fK o us kvs) ∧ R d (st'.set j (.dK kvs))) noX
theorem pd_lockE {e : Expr} {w : ME} (h : PDE G E X e w) : PDE G E X e (mLockE w) :=
  PE.weak (pe_lock h) fun σ H Q ⟨W, ρ, st, R, xq, rel, re, w1, o⟩ => by
    obtain ⟨j, kvs, e1, w1⟩ := w1
    obtain ⟨a, h1, vs, h2, h3⟩ := rel.cell _ _ e1
    refine ⟨a, .dK vs, h2, trivial, fun od => ?_⟩
    have l1 : Le W H W (upd H a (.frz od (.dK vs))) := Le.write (rel.mem h1)
    have rel1 : Rel G W (upd H a (.frz od (.dK vs))) (st.set j (.fK od vs kvs)) := rel.write h1 (c := .fK od vs kvs) ⟨upd_same, h3.le l1⟩
    refine ⟨W, ρ, _, _, noX, rel1, re.le l1, w1 od vs, ⟨fun W2 H2 d v st2 l2 rel2 rv w2 => ?_, fun _ _ _ _ _ _ z => z.elim⟩⟩
    obtain ⟨e2, w2⟩ := w2
    obtain ⟨b, h4, h5, h6⟩ := rel2.cell _ _ e2
    have hb : b = a := by
      obtain ⟨t, et⟩ := l2.m
      have : W2.m[j]? = some a := by rw [et, List.getElem?_append_left (List.getElem?_eq_some_iff.mp h1).1]; exact h1
      rw [this] at h4; cases h4; rfl
    subst hb
    refine ⟨h5, ?_⟩
    have l3 : Le W2 H2 W2 (upd H2 b (.dK vs)) := Le.write (rel2.mem h4)
    exact o.rt W2 _ d v _ (l1.trans (l2.trans l3)) (rel2.write h4 (c := .dK kvs) ⟨vs, upd_same, h6.le l3⟩) (rv.le l3) w2
/-- its keys are walked -/
@[simp] def miKF (we : ME) : MI := fun ρ st R xq => we ρ st (fun d st1 => ∃ j o us kvs, d = .hdl j ∧ st1[j]? = some (.fK o us kvs) ∧ R (kvs.map fun p => keyD p.1) (fun st' => st'[j]? = some (.fK o us kvs)) st1) xq
theorem RpK.getk {K : PySem.W.Frag} {W : Wd} {H : Hp} : ∀ {kvs : List (Key × D)} {vs : List (Key × V)} (i : Nat), RpK K W H kvs vs → vs.map (·.1) = kvs.map (·.1)
  | [], vs, _, h => by simp only [RpK] at h; subst h; rfl
  | (k, d) :: kvs, vs, i, h => by
    simp only [RpK] at h
    obtain ⟨v, r, rfl, _, h2⟩ := h
    simp [RpK.getk i h2]
theorem mi_kF {tg e : Expr} {we : ME} (he : PDE G E X e we) : PDI G E X tg e (miKF we) :=
  PI.weak (pi_keys he) fun σ H Q ⟨W, ρ, st, R, xq, rel, re, w, o⟩ =>
    ⟨W, ρ, st, _, xq, rel, re, w, ⟨fun W1 H1 d v st1 l1 rel1 rv w1 => by
      obtain ⟨j, od, us, kvs, rfl, e1, w1⟩ := w1
      simp only [Rp] at rv
      obtain ⟨a, h1, rfl⟩ := rv
      obtain ⟨b, h2, h3, h4⟩ := rel1.cell _ _ e1
      rw [h1] at h2; cases h2
      refine ⟨a, od, rfl, .inl ⟨us, h3, o.rt W1 H1 _ _ _ st1 l1 rel1 ?_ w1⟩⟩
      intro i W2 H2 st2 l2 rel2 e2
      obtain ⟨b, h5, h6, h7⟩ := rel2.cell _ _ e2
      obtain ⟨t, et⟩ := l2.m
      have : W2.m[j]? = some a := by rw [et, List.getElem?_append_left (List.getElem?_eq_some_iff.mp h1).1]; exact h1
      rw [this] at h5; cases h5
      have hl := h7.length
      refine ⟨fun hi => ⟨h6, by rw [hl]; simpa using hi⟩, fun d hd => ?_⟩
      rw [List.getElem?_map, Option.map_eq_some_iff] at hd
      obtain ⟨p, hp, rfl⟩ := hd
      have hi : i < kvs.length := (List.getElem?_eq_some_iff.mp hp).1
      refine ⟨⟨h6, by omega⟩, fun x H3 y => ?_⟩
      obtain ⟨rfl, k, v, hv, rfl⟩ := y
      refine ⟨W2, Le.refl, rel2, ?_⟩
      have hk := congrArg (fun l => l[i]?) (RpK.getk 0 h7)
      simp only [List.getElem?_map, hv, hp, Option.map_some, Option.some.injEq] at hk
      rw [hk]
      cases p.1 <;> rfl, o.xq⟩⟩
/-! ## zip of lists, also at handles -/
@[simp] def miZipA (w : MA) : MI := fun ρ st R xq => w ρ st (fun ds st1 => match ds with | [a, b] => ∃ xs ys, dr st1 a = .lst xs ∧ dr st1 b = .lst ys ∧ R (zipD xs ys) (fun st' => dr st' a = .lst xs ∧ dr st' b = .lst ys) st1 | _ => False) xq
theorem mi_zipA {e e2 : Expr} {w : MA} {p pos tpos : Pos} {elts : List Expr} {kk : Nat} (hm : X.mg "zip" = none) (ha : PDA G E X [e, e2] w) (hg : Gl X "zip" := by rfl) (hs : starEach [e, e2] X.env = (false, eval e X.env) :: starEach [e2] X.env := by rfl) (hpl : (backTo pos (starEach [e2] X.env)).any (·.1) = false := by rfl) (hK : G.K = X.K := by rfl) :
    PDI G E X (.Tuple elts kk tpos) (.Call (.Name "zip" p) [e, e2] [] pos) (miZipA w) :=
  PI.weak (pi_zip hg hm ha hs hpl) fun σ H Q ⟨W, ρ, st, R, xq, rel, re, w, o⟩ =>
    ⟨W, ρ, st, _, xq, rel, re, w, ⟨fun W1 H1 ds vs st1 l1 rel1 rv w1 => by
      rw [← hK]
      split at w1
      · rename_i a b
        obtain ⟨xs, ys, e1, e2, w1⟩ := w1
        obtain ⟨v, u, rfl, r1, r2⟩ := rpl2 rv
        obtain ⟨p, vs, rfl, h1, h2⟩ := dr_lst rel1 r1 e1
        obtain ⟨q, us, rfl, h3, h4⟩ := dr_lst rel1 r2 e2
        refine ⟨p, q, vs, us, rfl, SqL.of h1, SqL.of h3, o.rt W1 H1 _ _ _ st1 l1 rel1 ?_ w1⟩
        intro i W2 H2 st2 l2 rel2 hi
        obtain ⟨p', vs', e3, g1, g2⟩ := dr_lst rel2 (r1.leR l2) hi.1
        obtain ⟨q', us', e4, g3, g4⟩ := dr_lst rel2 (r2.leR l2) hi.2
        cases e3
        cases e4
        refine ⟨fun hl => ⟨vs', us', SqL.of g1, SqL.of g3, ?_⟩, fun d hd => ?_⟩
        · rw [g2.length, g4.length]
          have : (zipD xs ys).length = min xs.length ys.length := by simp [zipD]
          omega
        · obtain ⟨x, y, k1, k2, rfl⟩ := zipD_get hd
          obtain ⟨v, k3, k4⟩ := g2.get k1
          obtain ⟨u, k5, k6⟩ := g4.get k2
          refine ⟨⟨vs', us', v, u, SqL.of g1, SqL.of g3, k3, k5⟩, fun z H'' g => ?_⟩
          obtain ⟨T, v', u', rfl, hT, rfl, f1, f2⟩ := g
          have f3 := f1 vs' (SqL.of g1)
          rw [k3] at f3; cases f3
          have f4 := f2 us' (SqL.of g3)
          rw [k5] at f4; cases f4
          exact ⟨W2, Le.fresh hT, rel2.fresh hT, newT rel2 hT (RpL.cons k4 (.one k6))⟩
      · exact w1.elim, o.xq⟩⟩
end
end DL

set_option Elab.async false
set_option linter.all false
set_option maxRecDepth 100000
set_option autoImplicit false
namespace DL
open PySem PySem.Spec PyProof.Rows L2
/-- a hidden object is a handle from now on -/
theorem Rel.toHc {G : Gm} {a : Addr} {m ex : List Addr} {H : Hp} {st : Sto} {c : Cell} (r : Rel G ⟨m, a :: ex⟩ H st) (ha : a ∉ ex) (hc : CellRp G ⟨m, a :: ex⟩ H a c) : Rel G ⟨m ++ [a], ex⟩ H (st ++ [c]) ∧ Rp G.K ⟨m ++ [a], ex⟩ H (.hdl st.length) (.ref a) := by
  have nm : a ∉ m := fun z => r.out a z (List.mem_cons_self)
  have l : LeR ⟨m, a :: ex⟩ H ⟨m ++ [a], ex⟩ H := ⟨⟨[a], rfl⟩, fun b u h1 h2 e => by
    simp only [List.mem_cons, not_or] at h2
    exact ⟨by simp only [List.mem_append, List.mem_singleton, not_or]; exact ⟨h1, h2.1⟩, h2.2, e⟩⟩
  have hlen : m.length = st.length := r.len
  refine ⟨⟨?_, by simp [hlen], fun b hb => ?_, fun b hb => r.exs b (List.mem_cons_of_mem _ hb), fun j c' q => ?_⟩, ?_⟩
  · show (m ++ [a]).Nodup
    rw [List.nodup_append]
    refine ⟨r.nd, by simp, ?_⟩
    intro x h1 y h2 z
    have e2 : y = a := by simpa using h2
    exact nm (by rw [← e2, ← z]; exact h1)
  · rcases List.mem_append.mp hb with z | z
    · exact fun q => r.out b z (List.mem_cons_of_mem _ q)
    · have : b = a := by simpa using z
      subst this; exact ha
  · by_cases hj : j < st.length
    · rw [List.getElem?_append_left hj] at q
      obtain ⟨b, q1, q2⟩ := r.cell j c' q
      refine ⟨b, ?_, q2.leR l rfl⟩
      show (m ++ [a])[j]? = _
      rw [List.getElem?_append_left (by rw [hlen]; exact hj)]; exact q1
    · have hj' : st.length ≤ j := Nat.le_of_not_lt hj
      rw [List.getElem?_append_right hj'] at q
      have e0 : j - st.length = 0 := by
        by_cases z : j - st.length = 0
        · exact z
        · obtain ⟨n, hn⟩ := Nat.exists_eq_succ_of_ne_zero z
          rw [hn] at q; simp at q
      rw [e0] at q
      simp at q
      subst q
      refine ⟨a, ?_, hc.leR l rfl⟩
      show (m ++ [a])[j]? = _
      rw [List.getElem?_append_right (by rw [hlen]; exact hj'), hlen, e0]
      rfl
  · simp only [Rp]
    refine ⟨a, ?_, rfl⟩
    show (m ++ [a])[st.length]? = _
    rw [← hlen]; simp
/-! ## written dicts -/
@[simp] def mPrs : List (ME × ME) → DEnv → Sto → (List (D × D) → Sto → Prop) → Prop
  | [], _, st, k => k [] st
  | (a, b) :: r, ρ, st, k => a ρ st (fun x st1 => b ρ st1 (fun y st2 => mPrs r ρ st2 (fun l st3 => k ((x, y) :: l) st3)) noX) noX
@[simp] def toKs : List (D × D) → Option (List (Key × D))
  | [] => some []
  | (k, v) :: r => match toK k, toKs r with
    | some key, some kvs => some ((key, v) :: kvs)
    | _, _ => none
@[simp] def mDisp (prs : List (ME × ME)) : ME := fun ρ st R _ => mPrs prs ρ st (fun l st1 => ∃ kvs, toKs l = some kvs ∧ kvs.length ≤ 15 ∧ R (.hdl st1.length) (st1 ++ [.dK (mergeD [] kvs)]))
def RpP (K : PySem.W.Frag) (W : Wd) (H : Hp) : List (D × D) → List (V × V) → Prop
  | [], vs => vs = []
  | (k, d) :: r, vs => ∃ x y t, vs = (x, y) :: t ∧ Rp K W H k x ∧ Rp K W H d y ∧ RpP K W H r t
theorem RpP.leR {K : PySem.W.Frag} {W W' : Wd} {H H' : Hp} (l : LeR W H W' H') : ∀ {ds : List (D × D)} {vs : List (V × V)}, RpP K W H ds vs → RpP K W' H' ds vs
  | [], _, h => h
  | (k, d) :: r, vs, h => by
    obtain ⟨x, y, t, e, h1, h2, h3⟩ := h
    exact ⟨x, y, t, e, h1.leR l, h2.leR l, h3.leR l⟩
theorem RpP.keys {K : PySem.W.Frag} {W : Wd} {H : Hp} : ∀ {ds : List (D × D)} {vs : List (V × V)} {kvs : List (Key × D)}, RpP K W H ds vs → toKs ds = some kvs → ∃ us, vs = us.map (fun kv => (kV kv.1, kv.2)) ∧ RpK K W H kvs us
  | [], vs, kvs, h, e => by
    simp only [RpP] at h
    simp only [toKs] at e
    cases e
    subst h
    exact ⟨[], rfl, by simp only [RpK]⟩
  | (k, d) :: r, vs, kvs, h, e => by
    obtain ⟨x, y, t, rfl, h1, h2, h3⟩ := h
    simp only [toKs] at e
    split at e
    · rename_i key kvs' e1 e2
      cases e
      obtain ⟨us, rfl, h4⟩ := RpP.keys h3 e2
      obtain rfl := toK_of h1 e1
      exact ⟨(key, y) :: us, rfl, y, us, rfl, h2, h4⟩
    · cases e
section
variable {G : Gm} {E : XK} {X : Cx}
inductive PDPs (G : Gm) (X : Cx) (pos : Pos) : List (Option Expr) → List Expr → List (ME × ME) → Prop
  | nil : PDPs G X pos [] [] []
  | cons {k v : Expr} {ks : List (Option Expr)} {vs : List Expr} {wk wv : ME} {r : List (ME × ME)} : (PDE G E0 X k wk) → (PDE G E0 X v wv) → PDPs G X pos ks vs r → PDPs G X pos (some k :: ks) (v :: vs) ((wk, wv) :: r)
theorem PDPs.pps {pos : Pos} {ks : List (Option Expr)} {vs : List Expr} {prs : List (ME × ME)} (h : PDPs G X pos ks vs prs) : PPs X pos ks vs (prs.map fun p => (tD G E0 p.1, tD G E0 p.2)) := by
  induction h with
  | nil => exact pps_nil
  | cons h1 h2 _ ih => exact pps_cons h1 h2 ih
theorem prs_walk {σ : L2.St} {ρ : DEnv} : ∀ (prs : List (ME × ME)) {W : Wd} {H : Hp} {st : Sto} {k : List (D × D) → Sto → Prop} {Q : List (V × V) → Hp → Prop}, Rel G W H st → RpE G.K W H ρ σ → mPrs prs ρ st k →
    (∀ W' H' ds vs st', Le W H W' H' → Rel G W' H' st' → RpP G.K W' H' ds vs → k ds st' → Q vs H') → tPairs (prs.map fun p => (tD G E0 p.1, tD G E0 p.2)) σ H Q
  | [], W, H, st, k, Q, rel, re, w, o => o W H [] [] st Le.refl rel (by simp only [RpP]) w
  | (a, b) :: r, W, H, st, k, Q, rel, re, w, o =>
    ⟨W, ρ, st, _, noX, rel, re, w, ⟨fun W1 H1 dx x st1 l1 rel1 rx w1 => ⟨W1, ρ, st1, _, noX, rel1, re.le l1, w1, ⟨fun W2 H2 dy y st2 l2 rel2 ry w2 =>
      prs_walk r rel2 (re.le (l1.trans l2)) w2 fun W3 H3 ds vs st3 l3 rel3 rv w3 => o W3 H3 ((dx, dy) :: ds) _ st3 (l1.trans (l2.trans l3)) rel3 ⟨x, y, vs, rfl, rx.le (l2.trans l3), ry.le l3, rv⟩ w3, fun _ _ _ _ _ _ z => z.elim⟩⟩, fun _ _ _ _ _ _ z => z.elim⟩⟩
theorem pd_disp {pos : Pos} {keys : List (Option Expr)} {values : List Expr} {prs : List (ME × ME)} (h : PDPs G X pos keys values prs) (hall : keys.all (·.isSome) = true := by rfl) (hl : keys.length = values.length := by rfl) (h0 : keys ≠ [] := by simp) (h15 : keys.length ≤ 15 := by decide) : PDE G E X (.Dict keys values pos) (mDisp prs) :=
  PE.weak (pe_disp h.pps hall hl h0 h15) fun σ H Q ⟨W, ρ, st, R, xq, rel, re, w, o⟩ p hp => by
    have nex := rel.nex hp
    have nin := rel.nin hp
    have l0 : LeR W H ⟨W.m, p :: W.ex⟩ (upd H p (.dK [])) := ⟨⟨[], by simp⟩, fun b u h1 h2 e => ⟨h1, by simp [h2, ne_of_none e hp], by rw [upd_ne (ne_of_none e hp)]; exact e⟩⟩
    refine prs_walk prs (rel.hide (o := .dK []) hp) (re.leR l0) w fun W2 H2 ds vs st2 l2 rel2 rv w2 => ?_
    obtain ⟨m2, ex2⟩ := W2
    obtain rfl : ex2 = p :: W.ex := l2.ex
    obtain ⟨kvs, e1, hl15, w2⟩ := w2
    refine ⟨(l2.keep p _ nin upd_same).2, ?_⟩
    obtain ⟨us, rfl, rk⟩ := rv.keys e1
    have rm := rk.merge (kvs := []) (vs := []) (by simp only [RpK])
    obtain ⟨rel3, l3⟩ := rel2.hidden (a := p) (o := .dK (mergeK [] us)) List.mem_cons_self
    have rm3 : RpK G.K ⟨m2, p :: W.ex⟩ (upd H2 p (.dK (mergeK [] us))) (mergeD [] kvs) (mergeK [] us) := rm.leR l3
    obtain ⟨rel4, rh⟩ := rel3.toHc (c := .dK (mergeD [] kvs)) nex ⟨_, upd_same, rm3⟩
    refine ⟨us, rfl, by rw [rk.length]; exact hl15, o.rt _ _ (.hdl st2.length) (.ref p) _ ?_ rel4 rh w2⟩
    obtain ⟨t, et⟩ := l2.m
    refine ⟨rfl, ⟨t ++ [p], by show m2 ++ [p] = _; rw [show m2 = W.m ++ t from et, List.append_assoc]⟩, fun a u h1 e => ?_⟩
    have ne := ne_of_none e hp
    obtain ⟨q1, q2⟩ := l2.keep a u h1 (by rw [upd_ne ne]; exact e)
    exact ⟨by simp only [List.mem_append, List.mem_singleton, not_or]; exact ⟨q1, ne⟩, by rw [upd_ne ne]; exact q2⟩
end
end DL

set_option Elab.async false
set_option linter.all false
set_option maxRecDepth 100000
set_option autoImplicit false
namespace DL
open PySem PySem.Spec PyProof.Rows L2
theorem hu20 {k : Nat} {A : Around} (hr : Room k A) : A.units + 20 < cLine := by have := hr.units; omega
section
variable {ρ : DEnv} {st : Sto} {R : DQ} {xq : XQ} {w wa wb wc wo we wi : ME} {t : MT} {r wk : MA}
theorem mChn_i {d d' : D2} (h : wa ρ st (fun x st1 => wb ρ st1 (fun y st2 => d x y st2 (fun z st3 => onB z fun k => if k = true then wc ρ st3 (fun u st4 => d' y u st4 R) xq else R (.bl false) st3)) xq) xq) : mChn d d' wa wb wc ρ st R xq := h
theorem dLE_i {i j : Int} (h : R (.bl (decide (i ≤ j))) st) : dLE (.int i) (.int j) st R := h
theorem dLE_s {i j : Str} (h : R (.bl (strLe i j)) st) : dLE (.str i) (.str j) st R := h
theorem mSlA_i {wl wh : MO} (h : w ρ st (fun x st1 => wl ρ st1 (fun lo st2 => wh ρ st2 (fun hi st3 => dSlA x lo hi st3 R) xq) xq) xq) : mSlA w wl wh ρ st R xq := h
theorem mJoin_i (h : wo ρ st (fun x st1 => onS x fun a => we ρ st1 (fun y st2 => onL st2 y fun xs => ∃ ys, allS xs = some ys ∧ (ys.map (·.length)).sum + ys.length * a.length ≤ 16777216 ∧ R (.str (Txt.join a ys)) st2) xq) xq) : mJoin wo we ρ st R xq := h
theorem mMethG_i {C : Addr} {n j : Nat} {pre post : List D} {dsp : DSp} (h : we ρ st (fun x st1 => (onO st1 x C fun _ _ => True) ∧ r ρ st1 (fun ds st2 => wk ρ st2 (fun zs st3 => (x :: ds).length = n ∧ zs.length = j ∧ dsp (x :: ds ++ pre ++ zs ++ post) st3 R xq) xq) xq) xq) : mMethG C n j pre post dsp we r wk ρ st R xq := h
theorem mLockE_i {j : Nat} {kvs : List (Key × D)} (e : st[j]? = some (.dK kvs)) (h : ∀ o us, w ρ (st.set j (.fK o us kvs)) (fun d st' => st'[j]? = some (.fK o us kvs) ∧ R d (st'.set j (.dK kvs))) noX) : mLockE w ρ st R xq := ⟨j, kvs, e, h⟩
theorem miKF_i {k : List D → (Sto → Prop) → Sto → Prop} (h : w ρ st (fun d st1 => ∃ j o us kvs, d = .hdl j ∧ st1[j]? = some (.fK o us kvs) ∧ k (kvs.map fun p => keyD p.1) (fun st' => st'[j]? = some (.fK o us kvs)) st1) xq) : miKF w ρ st k xq := h
theorem miZipA_i {k : List D → (Sto → Prop) → Sto → Prop} (h : r ρ st (fun ds st1 => match ds with | [a, b] => ∃ xs ys, dr st1 a = .lst xs ∧ dr st1 b = .lst ys ∧ k (zipD xs ys) (fun st' => dr st' a = .lst xs ∧ dr st' b = .lst ys) st1 | _ => False) xq) : miZipA r ρ st k xq := h
theorem mDisp_i {prs : List (ME × ME)} (h : mPrs prs ρ st (fun l st1 => ∃ kvs, toKs l = some kvs ∧ kvs.length ≤ 15 ∧ R (.hdl st1.length) (st1 ++ [.dK (mergeD [] kvs)]))) : mDisp prs ρ st R xq := h
theorem mPrs_n {k : List (D × D) → Sto → Prop} (h : k [] st) : mPrs [] ρ st k := h
theorem mPrs_c {a b : ME} {l : List (ME × ME)} {k : List (D × D) → Sto → Prop} (h : a ρ st (fun x st1 => b ρ st1 (fun y st2 => mPrs l ρ st2 (fun l st3 => k ((x, y) :: l) st3)) noX) noX) : mPrs ((a, b) :: l) ρ st k := h
theorem mCallT_i {i : Nat} {tb : List (Addr × DSp)} {f : Addr} {dsp : DSp} (e : ρ[i]? = some (some (.raw (.ref f)))) (hm : (f, dsp) ∈ tb) (h : r ρ st (fun ds st1 => dsp ds st1 R noX) noX) : mCallT i tb r ρ st R xq := by
  unfold mCallT; rw [e]; exact ⟨dsp, hm, h⟩
theorem dAddA_i {i j : Int} (h : R (.int (i + j)) st) : dAddA (.int i) (.int j) st R := h
theorem dAddA_s {i j : Str} (hl : i.length + j.length ≤ sizeLine) (h : R (.str (i ++ j)) st) : dAddA (.str i) (.str j) st R := ⟨hl, h⟩
theorem dAddA_t {xs ys : List D} (hl : xs.length + ys.length ≤ sizeLine) (h : R (.tup (xs ++ ys)) st) : dAddA (.tup xs) (.tup ys) st R := ⟨hl, h⟩
theorem dAddA_l {x y : D} {xs ys : List D} (e1 : dr st x = .lst xs) (e2 : dr st y = .lst ys) (hl : xs.length + ys.length ≤ sizeLine) (h : R (.lst (xs ++ ys)) st) : dAddA x y st R := by
  unfold dAddA; rw [e1, e2]; exact ⟨hl, h⟩
theorem dMulA_i {i j : Int} (c : CMulX i j) (h : R (.int (i * j)) st) : dMulA (.int i) (.int j) st R := ⟨c, h⟩
theorem dMulA_t {xs : List D} {k : Int} (h0 : xs ≠ []) (h2 : 2 ≤ k) (h3 : k ≤ 1000) (h4 : xs.length ≤ 1000) (h : R (.tup (List.replicate k.toNat xs).flatten) st) : dMulA (.tup xs) (.int k) st R := ⟨h0, h2, h3, h4, h⟩
theorem dSlA_l {xs : List D} {lo hi : Option Int} (h : R (.lst (cutD xs lo hi)) st) : dSlA (.lst xs) lo hi st R := h
theorem dSlA_r {xs : List D} {lo hi : Option Int} (h : R (.lst (cutD xs lo hi)) st) : dSlA (.scr xs) lo hi st R := h
theorem dSlA_t {xs : List D} {lo hi : Option Int} (h : R (.tup (cutD xs lo hi)) st) : dSlA (.tup xs) lo hi st R := h
theorem dSlA_s {z : Str} {lo hi : Option Int} (hl : z.length ≤ sizeLine) (h : R (.str (cutT z lo hi)) st) : dSlA (.str z) lo hi st R := ⟨hl, h⟩
theorem dSlA_h {j : Nat} {xs : List D} {lo hi : Option Int} (e : st[j]? = some (.lst xs)) (h : R (.lst (cutD xs lo hi)) st) : dSlA (.hdl j) lo hi st R := by
  unfold dSlA; rw [dr_hdl e]; exact h
theorem dInKD_i {d : Addr} {tb : List (Str × Addr)} {n : Bool} {z : Str} (h : R (.bl (if n then !(tb.lookup z).isSome else (tb.lookup z).isSome)) st) : dInKD d tb n (.str z) (.raw (.ref d)) st R := ⟨rfl, h⟩
theorem dIxKD_i {d a : Addr} {tb : List (Str × Addr)} {z : Str} (e : tb.lookup z = some a) (h : R (.raw (.ref a)) st) : dIxKD d tb (.raw (.ref d)) (.str z) st R := ⟨rfl, a, e, h⟩
theorem dIsiT_i {cs : List String} {x : D} {t : String} {b : Bool} (e1 : tyD st x = some t) (e2 : kitBs t cs = some b) (h : R (.bl b) st) : dIsiT cs [x, .tup (cs.map fun a => D.raw (.ty a))] st R := ⟨rfl, t, b, e1, e2, h⟩
theorem dExtA_t {j : Nat} {xs ys : List D} (e : st[j]? = some (.lst xs)) (hl : xs.length + ys.length ≤ sizeLine) (h : R .non (st.set j (.lst (xs ++ ys)))) : dExtA (.hdl j) [.tup ys] st R := by
  simp only [dExtA, onH_hdl e]; exact ⟨hl, h⟩
theorem dExtA_l {j : Nat} {xs ys : List D} {y : D} (e : st[j]? = some (.lst xs)) (ey : dr st y = .lst ys) (hl : xs.length + ys.length ≤ sizeLine) (h : R .non (st.set j (.lst (xs ++ ys)))) : dExtA (.hdl j) [y] st R := by
  simp only [dExtA, onH_hdl e, ey]; exact ⟨hl, h⟩
theorem dDictA_l {xs : List D} {kvs : List (Key × D)} (e : pairsD xs = some kvs) (h : R (.hdl st.length) (st ++ [.dK (mergeD [] kvs)])) : dDictA [.lst xs] st R := ⟨kvs, e, h⟩
theorem dDictA_q {d : D} {xs : List D} {kvs : List (Key × D)} (e0 : dr st d = .lst xs) (e : pairsD xs = some kvs) (h : R (.hdl st.length) (st ++ [.dK (mergeD [] kvs)])) : dDictA [d] st R := by
  simp only [dDictA, e0]; exact ⟨kvs, e, h⟩
theorem dDictA_h {j : Nat} {kvs : List (Key × D)} (e : st[j]? = some (.dK kvs)) (h : R (.hdl st.length) (st ++ [.dK kvs])) : dDictA [.hdl j] st R := by
  have : dr st (.hdl j) = .hdl j := by
    show (match st[j]? with | some (Cell.lst xs) => D.lst xs | _ => D.hdl j) = _
    rw [e]
  simp only [dDictA, this, onK_hdl e]; exact h
theorem dSortK_h {j : Nat} {kvs : List (Key × D)} {ks : List Int} (e : st[j]? = some (.dK kvs)) (ek : keysI kvs = some ks) (hl : ks.length < 64) (h : ∀ ys : List Int, ys.Perm ks → ys.Pairwise (· ≤ ·) → R (.lst (ys.map D.int)) st) : dSortK [.hdl j] st R := by
  simp only [dSortK, onK_hdl e]; exact ⟨ks, ek, hl, h⟩
theorem dSortP_l {ps : List (Str × D)} (hn : (ps.map (·.1)).Nodup) (h : ∀ qs : List (Str × D), qs.Perm ps → qs.Pairwise (fun p q => ltT q.1 p.1 = false) → R (.lst (qs.map pairD)) st) : dSortP [.lst (ps.map pairD)] st R := ⟨ps, rfl, hn, h⟩
end
/-! ## a text walked sign by sign -/
def chrsD (x : Str) : List D := x.cps.toList.map fun c => .str ⟨#[c]⟩
section
variable {G : Gm} {E : XK} {X : Cx}
@[simp] def miStr (we : ME) : MI := fun ρ st R xq => we ρ st (fun d st1 => onS d fun x => R (chrsD x) noInv st1) xq
theorem mi_str {tg e : Expr} {we : ME} (he : PDE G E X e we) : PDI G E X tg e (miStr we) :=
  PI.weak (pi_str he) fun σ H Q ⟨W, ρ, st, R, xq, rel, re, w, o⟩ =>
    ⟨W, ρ, st, _, xq, rel, re, w, ⟨fun W1 H1 d v st1 l1 rel1 rv w1 => by
      obtain ⟨x, rfl, w1⟩ := onS_of rv w1
      refine ⟨x, rfl, o.rt W1 H1 _ _ _ st1 l1 rel1 ?_ w1⟩
      intro i W2 H2 st2 l2 rel2 _
      refine ⟨fun hi => by show x.cps.size ≤ i; simpa [chrsD] using hi, fun d hd => ?_⟩
      unfold chrsD at hd
      rw [List.getElem?_map, Option.map_eq_some_iff] at hd
      obtain ⟨c, hc, rfl⟩ := hd
      have hi : i < x.cps.size := by simpa using (List.getElem?_eq_some_iff.mp hc).1
      refine ⟨hi, fun y H3 g => ?_⟩
      obtain ⟨rfl, c', hc', rfl⟩ := g
      refine ⟨W2, Le.refl, rel2, ?_⟩
      rw [Array.getElem?_toList] at hc
      rw [hc] at hc'; cases hc'
      rfl, o.xq⟩⟩
end
theorem miStr_i {w : ME} {ρ : DEnv} {st : Sto} {xq : XQ} {k : List D → (Sto → Prop) → Sto → Prop} (h : w ρ st (fun d st1 => onS d fun x => k (chrsD x) noInv st1) xq) : miStr w ρ st k xq := h
theorem dIN_sign {n : Bool} {c : Nat} {z : Str} {st : Sto} {R : DQ} (h : R (.bl (if n then !decide (c ∈ z.cps.toList) else decide (c ∈ z.cps.toList))) st) : dIN n (.str ⟨#[c]⟩) (.str z) st R := by
  have e := PySem.StrLaws.found_one z c
  simp only [dIN, dr_strD, onS_str]
  rw [e]; exact h
theorem dEQ_s {n : Bool} {i j : Str} {st : Sto} {R : DQ} (h : R (.bl (xorB n (decide (i = j)))) st) : dEQ n (.str i) (.str j) st R := h
theorem dEQ_p {n : Bool} {x y : D} {p q : PyData} {st : Sto} {R : DQ} (ex : pyD x = some p) (ey : pyD y = some q) (sx : SeqAt.shaped p = true) (sy : SeqAt.shaped q = true) (h : R (.bl (xorB n (PyData.eqv p q))) st) : dEQ n x y st R := by
  have gen : (∃ m p q, pyD (res m st x) = some p ∧ pyD (res m st y) = some q ∧ SeqAt.shaped p = true ∧ SeqAt.shaped q = true ∧ R (.bl (xorB n (PyData.eqv p q))) st) → dEQ n x y st R := by
    intro g
    unfold dEQ
    split
    · simp only [pyD] at ex ey
      cases ex; cases ey
      have : PyData.eqv (.int ‹Int›) (.int ‹Int›) = decide (‹Int› = ‹Int›) := rfl
      rename_i i j
      have e : PyData.eqv (.int i) (.int j) = decide (i = j) := by by_cases z : i = j <;> simp [PyData.eqv, z]
      rw [← e]; exact h
    · simp only [pyD] at ex ey
      cases ex; cases ey
      rename_i i j
      have e : PyData.eqv (.bool i) (.bool j) = decide (i = j) := by by_cases z : i = j <;> simp [PyData.eqv, z]
      rw [← e]; exact h
    · simp only [pyD] at ex ey
      cases ex; cases ey
      rename_i i j
      have e : PyData.eqv (.str i) (.str j) = decide (i = j) := by by_cases z : i = j <;> simp [PyData.eqv, z]
      rw [← e]; exact h
    · exact g
  exact gen ⟨0, p, q, ex, ey, sx, sy, h⟩
/-! ### a locked dict's item -/
@[simp] def dIxF : D2 := fun x y st R => ∃ j o us kvs key d, x = .hdl j ∧ st[j]? = some (.fK o us kvs) ∧ toK y = some key ∧ valD kvs key = some d ∧ R d st
section
variable {G : Gm} {E : XK} {X : Cx}
theorem od_ixF : OpD G (rIX X.K) dIxF := by
  intro E W H st dx dy x y R xq Q rel rx ry w o
  obtain ⟨j, od, us, kvs, key, d, rfl, e1, e2, e3, w⟩ := w
  simp only [Rp] at rx
  obtain ⟨a, h1, rfl⟩ := rx
  obtain ⟨b, h2, h3, h4⟩ := rel.cell _ _ e1
  rw [h1] at h2; cases h2
  obtain rfl := toK_of ry e2
  rcases h4.val key with ⟨d', v, q1, q2, q3⟩ | ⟨q1, _⟩
  · rw [e3] at q1; cases q1
    exact .inr ⟨a, v, rfl, .inl ⟨us, key, .inr ⟨od, h3⟩, rfl, q2.symm⟩, o.rt W H d v st Le.refl rel q3 w⟩
  · rw [e3] at q1; cases q1
theorem pd_ixF {a b : Expr} {wa wb : ME} {pos : Pos} (hu : X.A.units + 1 < cLine) (ha : PDE G E X a wa) (hb : PDE G E X b wb) (hs : PlainIx b := by intro _ _; rfl) : PDE G E X (.Subscript a b pos) (mOp dIxF wa wb) :=
  PE.weak (pe_ix (ix_ALL hu) ha hb hs) fun _ _ _ h => op_lift od_ixF h
end
theorem dIxF_h {st : Sto} {R : DQ} {j : Nat} {o : Obj} {us : List (Key × V)} {kvs : List (Key × D)} {y d : D} {key : Key} (e : st[j]? = some (.fK o us kvs)) (q : toK y = some key) (v : valD kvs key = some d) (h : R d st) : dIxF (.hdl j) y st R := ⟨j, o, us, kvs, key, d, rfl, e, q, v, h⟩
end DL

set_option Elab.async false
set_option linter.all false
set_option maxRecDepth 100000
set_option autoImplicit false
namespace DL
open PySem PySem.Spec PyProof.Rows L2
/-! ## zip of lists, each pair under one name -/
section
variable {G : Gm} {E : XK} {X : Cx}
theorem mi_zipN {e e2 : Expr} {w : MA} {p pos tpos : Pos} {nm : Str} (hm : X.mg "zip" = none) (ha : PDA G E X [e, e2] w) (hg : Gl X "zip" := by rfl) (hs : starEach [e, e2] X.env = (false, eval e X.env) :: starEach [e2] X.env := by rfl) (hpl : (backTo pos (starEach [e2] X.env)).any (·.1) = false := by rfl) (hK : G.K = X.K := by rfl) :
    PDI G E X (.Name nm tpos) (.Call (.Name "zip" p) [e, e2] [] pos) (miZipA w) := by
  refine PI.weak (pi_zipN hg hm ha hs hpl) fun σ H Q ⟨W, ρ, st, R, xq, rel, re, w, o⟩ => ⟨W, ρ, st, _, xq, rel, re, w, ⟨fun W1 H1 ds vs st1 l1 rel1 rv w1 => ?_, o.xq⟩⟩
  rw [← hK]
  split at w1
  case h_2 => exact w1.elim
  rename_i a b
  obtain ⟨xs, ys, e1, e2, w1⟩ := w1
  obtain ⟨v, u, rfl, r1, r2⟩ := rpl2 rv
  obtain ⟨p, vs, rfl, h1, h2⟩ := dr_lst rel1 r1 e1
  obtain ⟨q, us, rfl, h3, h4⟩ := dr_lst rel1 r2 e2
  refine ⟨p, q, vs, us, rfl, SqL.of h1, SqL.of h3, o.rt W1 H1 _ _ _ st1 l1 rel1 (fun i W2 H2 st2 l2 rel2 hi => ?_) w1⟩
  obtain ⟨p', vs', e3, g1, g2⟩ := dr_lst rel2 (r1.leR l2) hi.1
  obtain ⟨q', us', e4, g3, g4⟩ := dr_lst rel2 (r2.leR l2) hi.2
  cases e3
  cases e4
  constructor
  · intro hl
    refine ⟨vs', us', SqL.of g1, SqL.of g3, ?_⟩
    have q : (zipD xs ys).length = min xs.length ys.length := by simp [zipD]
    rw [g2.length, g4.length]
    omega
  · intro d hd
    obtain ⟨x, y, k1, k2, rfl⟩ := zipD_get hd
    obtain ⟨v, k3, k4⟩ := g2.get k1
    obtain ⟨u, k5, k6⟩ := g4.get k2
    refine ⟨⟨vs', us', v, u, SqL.of g1, SqL.of g3, k3, k5⟩, ?_⟩
    rintro z H'' ⟨T, v', u', rfl, hT, rfl, f1, f2⟩
    have f3 := f1 vs' (SqL.of g1)
    rw [k3] at f3; cases f3
    have f4 := f2 us' (SqL.of g3)
    rw [k5] at f4; cases f4
    exact ⟨W2, Le.fresh hT, rel2.fresh hT, newT rel2 hT (RpL.cons k4 (.one k6))⟩
end
end DL

set_option Elab.async false
set_option linter.all false
set_option maxRecDepth 100000
set_option autoImplicit false
namespace DL
open PySem PySem.Spec PyProof.Rows L2
structure Cl where
  Bank : Addr
  t_PAIRS : Addr
  t_RULES : Addr
  d_band_of : Addr
  d_bor_of : Addr
  d_bxor_of : Addr
  d_add_of : Addr
  d_sub_of : Addr
  d_mul_of : Addr
  d_div_of : Addr
  d_rest_of : Addr
  d_shl_of : Addr
  d_shr_of : Addr
  d_sar_of : Addr
  d_less_of : Addr
  d_sless_of : Addr
  d_of_nothing : Addr
  d_of_marks : Addr
  d_of_truth : Addr
  d_of_truths : Addr
  d_of_alike : Addr
  d_of_less : Addr
  d_of_choice : Addr
  d_of_word : Addr
  d_of_words : Addr
  d_of_joined : Addr
  d_of_cut : Addr
  d_of_read : Addr
  d_of_written : Addr
/-! ## stores: what stays -/
/-- all cells but those of F are as they were -/
structure Fx (F : List Nat) (st st' : Sto) : Prop where
  len : st.length ≤ st'.length
  get : ∀ k, k < st.length → k ∉ F → st'[k]? = st[k]?
theorem Fx.refl {F : List Nat} {st : Sto} : Fx F st st := ⟨Nat.le_refl _, fun _ _ _ => rfl⟩
theorem Fx.trans {F F' : List Nat} {a b c : Sto} (h : Fx F a b) (h' : Fx F' b c) (s : ∀ k ∈ F', k ∈ F ∨ a.length ≤ k) : Fx F a c :=
  ⟨Nat.le_trans h.len h'.len, fun k hk hf => by
    rw [h'.get k (Nat.lt_of_lt_of_le hk h.len) (fun z => (s k z).elim hf (fun q => by omega)), h.get k hk hf]⟩
theorem Fx.mono {F F' : List Nat} {a b : Sto} (h : Fx F a b) (s : ∀ k ∈ F, k ∈ F') : Fx F' a b := ⟨h.len, fun k hk hf => h.get k hk fun z => hf (s k z)⟩
theorem Fx.set {F : List Nat} {a b : Sto} {j : Nat} {c : Cell} (h : Fx F a b) (hj : j ∈ F ∨ a.length ≤ j) : Fx F a (b.set j c) :=
  ⟨by rw [List.length_set]; exact h.len, fun k hk hf => by
    rw [List.getElem?_set_ne (fun z => by subst z; exact hj.elim hf (fun q => by omega))]; exact h.get k hk hf⟩
theorem Fx.app {F : List Nat} {a b : Sto} {c : Cell} (h : Fx F a b) : Fx F a (b ++ [c]) :=
  ⟨by rw [List.length_append]; have := h.len; omega, fun k hk hf => by
    rw [List.getElem?_append_left (Nat.lt_of_lt_of_le hk h.len)]; exact h.get k hk hf⟩
theorem Fx.at {F : List Nat} {a b : Sto} {j : Nat} {c : Cell} (h : Fx F a b) (e : a[j]? = some c) (hf : j ∉ F) : b[j]? = some c :=
  (h.get j (List.getElem?_eq_some_iff.mp e).1 hf).trans e
abbrev dIs (ns : List Int) : List D := ns.map D.int
/-! ## kinds -/
inductive Kd where | truth | word (n : Nat) | arr (p n : Nat)
  deriving DecidableEq
def Kd.its : Kd → List D
  | .truth => [.str "truth"]
  | .word n => [.str "word", .int n]
  | .arr p n => [.str "array", .int p, .int n]
def Kd.d (k : Kd) : D := .tup k.its
def Kd.nks : Kd → List NK
  | .truth => [.str "truth"]
  | .word n => [.str "word", .int n]
  | .arr p n => [.str "array", .int p, .int n]
def Kd.nk (k : Kd) : NK := .tup k.nks
def Kd.ok : Kd → Prop
  | .truth => True
  | .word n => 1 ≤ n ∧ n ≤ 8
  | .arr p n => 1 ≤ p ∧ p ≤ 3 ∧ 1 ≤ n ∧ n ≤ 8
/-- whole numbers, truths -/
def flatM : D → Bool | .int _ => true | .bl _ => true | _ => false
def optD : Option Kd → D | none => .non | some k => k.d
/-- a whole number within bounds, no truth -/
def isW : D → Int → Int → Bool
  | .int i, a, b => decide (a ≤ i) && decide (i ≤ b)
  | _, _, _ => false
def kNothing (ks : List Kd) (ms : List D) : Option Kd := if ks = [] ∧ ms.isEmpty = true then some .truth else none
def kMarks : List Kd → List D → Option Kd
  | [], [.int a, b] => if isW (.int a) 1 8 = true ∧ isW b 0 (2 ^ a.toNat - 1) = true then some (.word a.toNat) else none
  | _, _ => none
def kTruth (ks : List Kd) (ms : List D) : Option Kd := if ks = [.truth] ∧ ms.isEmpty = true then some .truth else none
def kTruths (ks : List Kd) (ms : List D) : Option Kd := if ks = [.truth, .truth] ∧ ms.isEmpty = true then some .truth else none
def kAlike : List Kd → List D → Option Kd
  | [a, b], ms => if a = b ∧ ms.isEmpty = true then some .truth else none
  | _, _ => none
def kWords : List Kd → List D → Option Kd
  | [.word n, b], ms => if .word n = b ∧ ms.isEmpty = true then some (.word n) else none
  | _, _ => none
def kLess (ks : List Kd) (ms : List D) : Option Kd := (kWords ks ms).map fun _ => .truth
def kChoice : List Kd → List D → Option Kd
  | [.truth, a, b], ms => if a = b ∧ ms.isEmpty = true then some a else none
  | _, _ => none
def kWord : List Kd → List D → Option Kd
  | [.word n], ms => if ms.isEmpty = true then some (.word n) else none
  | _, _ => none
def kJoined : List Kd → List D → Option Kd
  | [.word n, .word m], ms => if ms.isEmpty = true ∧ n + m ≤ 8 then some (.word (n + m)) else none
  | _, _ => none
def kCut : List Kd → List D → Option Kd
  | [.word n], [.int h, .int l] => if isW (.int h) 0 (n - 1) = true ∧ isW (.int l) 0 h = true then some (.word (h - l + 1).toNat) else none
  | _, _ => none
def kRead : List Kd → List D → Option Kd
  | [.arr p n, .word q], ms => if ms.isEmpty = true ∧ q = p then some (.word n) else none
  | _, _ => none
def kWritten : List Kd → List D → Option Kd
  | [.arr p n, .word q, .word r], ms => if ms.isEmpty = true ∧ q = p ∧ r = n then some (.arr p n) else none
  | _, _ => none
/-- the words of terms, each with its rule -/
def wordRules : List (Str × (List Kd → List D → Option Kd)) := [("true", kNothing), ("false", kNothing), ("number", kMarks), ("not", kTruth), ("and", kTruths), ("or", kTruths), ("same", kAlike), ("less", kLess), ("sless", kLess), ("choose", kChoice), ("flip", kWord), ("band", kWords),
  ("bor", kWords), ("bxor", kWords), ("add", kWords), ("sub", kWords), ("mul", kWords), ("div", kWords), ("rest", kWords), ("shl", kWords), ("shr", kWords), ("sar", kWords), ("join", kJoined), ("cut", kCut), ("read", kRead), ("write", kWritten)]
def ruleOf (w : Str) : Option (List Kd → List D → Option Kd) := wordRules.lookup w
def kindOf (w : Str) (ks : List Kd) (ms : List D) : Option Kd := (ruleOf w).bind fun g => g ks ms
/-! ## terms -/
inductive Nd where | nm (x : Str) (k : Kd) | ap (w : Str) (ps : List Nat) (ms : List Int)
  deriving DecidableEq
abbrev dNs (ps : List Nat) : List D := ps.map fun (n : Nat) => D.int (n : Int)
def Nd.its : Nd → List D
  | .nm x k => [.str "name", .tup [], .tup [.str x, k.d]]
  | .ap w ps ms => [.str w, .tup (dNs ps), .tup (dIs ms)]
def Nd.d (n : Nd) : D := .tup n.its
def Nd.nks : Nd → List NK
  | .nm x k => [.str "name", .tup [], .tup [.str x, k.nk]]
  | .ap w ps ms => [.str w, .tup (ps.map fun (n : Nat) => NK.int (n : Int)), .tup (ms.map NK.int)]
def Nd.nk (n : Nd) : NK := .tup n.nks
abbrev Ts := List (Nd × Kd)
def ndAt (ts : Ts) (i : Nat) : Option Nd := ts[i]?.map Prod.fst
def letterL : List Nat := [97, 98, 99, 100, 101, 102, 103, 104, 105, 106, 107, 108, 109, 110, 111, 112, 113, 114, 115, 116, 117, 118, 119, 120, 121, 122]
/-- a text that may be a name -/
def isNm (x : Str) : Bool := decide (1 ≤ x.length) && decide (x.length ≤ 8) && !(ruleOf x).isSome && !decide (x = "name") && !decide (x = "array") && x.cps.toList.all fun c => decide (c ∈ letterL)
def kindAt (ts : Ts) (i : Nat) : Kd := (ts[i]?.map (·.2)).getD .truth
def NdOk (ts : Ts) (i : Nat) : Nd × Kd → Prop
  | (.nm x k, k') => k' = k ∧ k.ok ∧ isNm x = true
  | (.ap w ps ms, k) => (∀ p ∈ ps, p < i) ∧ kindOf w (ps.map (kindAt ts)) (dIs ms) = some k ∧ k.ok
structure BankOk (ts : Ts) : Prop where
  len : ts.length ≤ 100000
  nd : (ts.map (·.1)).Nodup
  ok : ∀ i t, ts[i]? = some t → NdOk ts i t
  nms : ∀ i j x k k', ndAt ts i = some (Nd.nm x k) → ndAt ts j = some (Nd.nm x k') → i = j
def placedF : Nat → Ts → List (NK × D)
  | _, [] => []
  | i, t :: ts => (t.1.nk, .int i) :: placedF (i + 1) ts
def calledF : Nat → Ts → List (Key × D)
  | _, [] => []
  | i, (.nm x _, _) :: ts => (.inr x, .int i) :: calledF (i + 1) ts
  | i, (.ap _ _ _, _) :: ts => calledF (i + 1) ts
/-- where a bank's things stand -/
structure BH where
  b : Nat
  m : Nat
  s : Nat
  p : Nat
  q : Nat
def BH.fp (B : BH) : List Nat := [B.m, B.s, B.p, B.q]
/-- a bank's things: terms ts, names called as in tq -/
structure BankQ (c : Cl) (B : BH) (ts tq : Ts) (st : Sto) : Prop where
  obj : st[B.b]? = some (.ins c.Bank [(0, .hdl B.m), (1, .hdl B.s), (2, .hdl B.p), (3, .hdl B.q)])
  made : st[B.m]? = some (.lst (ts.map fun t => t.1.d))
  sorts : st[B.s]? = some (.lst (ts.map fun t => t.2.d))
  placed : st[B.p]? = some (.dN (placedF 0 ts))
  called : st[B.q]? = some (.dK (calledF 0 tq))
  nd : [B.b, B.m, B.s, B.p, B.q].Nodup
abbrev BankAt (c : Cl) (B : BH) (ts : Ts) (st : Sto) : Prop := BankQ c B ts ts st
theorem BankQ.fx {c : Cl} {B : BH} {ts tq : Ts} {st st' : Sto} {F : List Nat} (h : BankQ c B ts tq st) (f : Fx F st st') (hb : B.b ∉ F) (hf : ∀ k ∈ B.fp, k ∉ F) : BankQ c B ts tq st' :=
  ⟨f.at h.obj hb, f.at h.made (hf _ (by simp [BH.fp])), f.at h.sorts (hf _ (by simp [BH.fp])), f.at h.placed (hf _ (by simp [BH.fp])), f.at h.called (hf _ (by simp [BH.fp])), h.nd⟩
def nIx (n : Nd) : Ts → Option Nat
  | [] => none
  | t :: ts => if t.1 = n then some 0 else (nIx n ts).map (· + 1)
/-- a term put: its number, the terms then -/
def bput (ts : Ts) (n : Nd) (k : Kd) : Nat × Ts := match nIx n ts with
  | some i => (i, ts)
  | none => (ts.length, ts ++ [(n, k)])
/-- a list or a tuple, as data or at a handle that is not of F -/
def SeqA (F : List Nat) (st : Sto) (d : D) (xs : List D) : Prop := d = .lst xs ∨ d = .tup xs ∨ ∃ j, j ∉ F ∧ d = .hdl j ∧ st[j]? = some (.lst xs)
theorem SeqA.fx {F F' : List Nat} {st st' : Sto} {d : D} {xs : List D} (h : SeqA F st d xs) (f : Fx F' st st') (hs : ∀ k ∈ F', k ∈ F) : SeqA F st' d xs := by
  rcases h with h | h | ⟨j, h1, h2, h3⟩
  · exact .inl h
  · exact .inr (.inl h)
  · exact .inr (.inr ⟨j, h1, h2, f.at h3 fun z => h1 (hs j z)⟩)
/-! ## promises: the bank -/
def spis_whole (c : Cl) : DSp := fun ds st R xq => ∃ (d : D) (a b : Int), ds = [d, .int a, .int b] ∧ (tyD st d).isSome = true ∧ R (.bl (isW d a b)) st
def spas_kind (c : Cl) : DSp := fun ds st R xq => ∃ (d : D) (k : Kd), ds = [d] ∧ (d = k.d ∨ d = .lst k.its) ∧ k.ok ∧ R k.d st
def spRule (g : List Kd → List D → Option Kd) : DSp := fun ds st R xq => ∃ (ks : List Kd) (ms : List D), ds = [.lst (ks.map Kd.d), .tup ms] ∧ ms.all flatM = true ∧ R (optD (g ks ms)) st
def spof_nothing (c : Cl) : DSp := spRule kNothing
def spof_marks (c : Cl) : DSp := spRule kMarks
def spof_truth (c : Cl) : DSp := spRule kTruth
def spof_truths (c : Cl) : DSp := spRule kTruths
def spof_alike (c : Cl) : DSp := spRule kAlike
def spof_words (c : Cl) : DSp := spRule kWords
def spof_less (c : Cl) : DSp := spRule kLess
def spof_choice (c : Cl) : DSp := spRule kChoice
def spof_word (c : Cl) : DSp := spRule kWord
def spof_joined (c : Cl) : DSp := spRule kJoined
def spof_cut (c : Cl) : DSp := spRule kCut
def spof_read (c : Cl) : DSp := spRule kRead
def spof_written (c : Cl) : DSp := spRule kWritten
def spkind_by (c : Cl) : DSp := fun ds st R xq => ∃ (w : Str) (ks : List Kd) (ms : List D) (g : List Kd → List D → Option Kd), ds = [.str w, .lst (ks.map Kd.d), .tup ms] ∧ ruleOf w = some g ∧ ms.all flatM = true ∧ R (optD (g ks ms)) st
def spis_name (c : Cl) : DSp := fun ds st R xq => ∃ x : Str, ds = [.str x] ∧ x.length ≤ 1000 ∧ R (.bl (isNm x)) st
def spneed_term (c : Cl) : DSp := fun ds st R xq => ∃ (B : BH) (ts : Ts) (i : Nat), ds = [.hdl B.b, .int i] ∧ BankAt c B ts st ∧ i < ts.length ∧ R .non st
def spput_in (c : Cl) : DSp := fun ds st R xq => ∃ (B : BH) (ts tq : Ts) (n : Nd) (k : Kd), ds = [.hdl B.b, n.d, k.d] ∧ BankQ c B ts tq st ∧ ts.length < 100000 ∧ ∀ (i : Nat) (ts' : Ts) (st' : Sto), bput ts n k = (i, ts') → BankQ c B ts' tq st' → Fx B.fp st st' → R (.int i) st'
def spBank_DinitD (c : Cl) : DSp := fun ds st R xq => ∃ b : Nat, ds = [.hdl b] ∧ st[b]? = some (.ins c.Bank []) ∧ ∀ st', Fx [b] st st' → BankAt c ⟨b, st.length, st.length + 1, st.length + 2, st.length + 3⟩ [] st' → st'.length = st.length + 4 → R .non st'
def spBank_make (c : Cl) : DSp := fun ds st R xq => ∃ (B : BH) (ts : Ts) (w : Str) (dp dm : D) (ps : List Nat) (ms : List Int) (k : Kd), ds = [.hdl B.b, .str w, dp, dm] ∧ BankAt c B ts st ∧ BankOk ts ∧ ts.length < 100000 ∧ SeqA B.fp st dp (dNs ps) ∧ SeqA B.fp st dm (dIs ms) ∧ ps.length ≤ 1000 ∧ ms.length ≤ 1000 ∧
  (∀ p ∈ ps, p < ts.length) ∧ kindOf w (ps.map (kindAt ts)) (dIs ms) = some k ∧ ∀ (i : Nat) (ts' : Ts) (st' : Sto), bput ts (.ap w ps ms) k = (i, ts') → BankAt c B ts' st' → BankOk ts' → Fx B.fp st st' → R (.int i) st'
def spBank_name (c : Cl) : DSp := fun ds st R xq => ∃ (B : BH) (ts : Ts) (x : Str) (d : D) (k : Kd), ds = [.hdl B.b, .str x, d] ∧ (d = k.d ∨ d = .lst k.its) ∧ k.ok ∧ BankAt c B ts st ∧ BankOk ts ∧ ts.length < 100000 ∧ isNm x = true ∧ (∀ i k', ndAt ts i = some (Nd.nm x k') → k' = k) ∧
  ∀ (i : Nat) (ts' : Ts) (st' : Sto), bput ts (.nm x k) k = (i, ts') → BankAt c B ts' st' → BankOk ts' → Fx B.fp st st' → R (.int i) st'
def spBank_kind (c : Cl) : DSp := fun ds st R xq => ∃ (B : BH) (ts : Ts) (i : Nat), ds = [.hdl B.b, .int i] ∧ BankAt c B ts st ∧ i < ts.length ∧ R (kindAt ts i).d st
def spBank_node (c : Cl) : DSp := fun ds st R xq => ∃ (B : BH) (ts : Ts) (i : Nat) (t : Nd × Kd), ds = [.hdl B.b, .int i] ∧ BankAt c B ts st ∧ ts[i]? = some t ∧ R t.1.d st
def nmPairs : Ts → List (Str × D)
  | [] => []
  | (.nm x k, _) :: ts => (x, k.d) :: nmPairs ts
  | (.ap _ _ _, _) :: ts => nmPairs ts
def spBank_names (c : Cl) : DSp := fun ds st R xq => ∃ (B : BH) (ts : Ts), ds = [.hdl B.b] ∧ BankAt c B ts st ∧ BankOk ts ∧ R (.lst ((nmPairs ts).map pairD)) st

/-! ## worths -/
inductive Wo where | t (b : Bool) | n (i : Int) | a (xs : List Int)
  deriving DecidableEq
def Wo.d : Wo → D
  | .t b => .bl b
  | .n i => .int i
  | .a xs => .tup (dIs xs)
def Wo.fits : Wo → Kd → Prop
  | .t _, .truth => True
  | .n i, .word w => 0 ≤ i ∧ i < 2 ^ w
  | .a xs, .arr p w => xs.length = 2 ^ p ∧ ∀ x ∈ xs, 0 ≤ x ∧ x < 2 ^ w
  | _, _ => False
def asSg (n : Nat) (x : Int) : Int := if 2 ^ (n - 1) ≤ x then x - 2 ^ n else x
def pDiv (n : Nat) (x y : Int) : Wo := .n (if y = 0 then 2 ^ n - 1 else x / y)
def pRest (n : Nat) (x y : Int) : Wo := .n (if y = 0 then x else x % y)
def pShl (n : Nat) (x y : Int) : Wo := .n (x * 2 ^ y.toNat % 2 ^ n)
def pShr (n : Nat) (x y : Int) : Wo := .n (x / 2 ^ y.toNat)
def pSar (n : Nat) (x y : Int) : Wo := .n (asSg n x / 2 ^ y.toNat % 2 ^ n)
def pBand (n : Nat) (x y : Int) : Wo := .n (Builtin.bitAnd x y)
def pBor (n : Nat) (x y : Int) : Wo := .n (Builtin.bitOr x y)
def pBxor (n : Nat) (x y : Int) : Wo := .n (Builtin.bitXor x y)
def pAdd (n : Nat) (x y : Int) : Wo := .n ((x + y) % 2 ^ n)
def pSub (n : Nat) (x y : Int) : Wo := .n ((x - y) % 2 ^ n)
def pMul (n : Nat) (x y : Int) : Wo := .n (x * y % 2 ^ n)
def pLess (n : Nat) (x y : Int) : Wo := .t (decide (x < y))
def pSless (n : Nat) (x y : Int) : Wo := .t (decide (asSg n x < asSg n y))
def wordPairs : List (Str × (Nat → Int → Int → Wo)) := [("band", pBand), ("bor", pBor), ("bxor", pBxor), ("add", pAdd), ("sub", pSub), ("mul", pMul), ("div", pDiv), ("rest", pRest), ("shl", pShl), ("shr", pShr), ("sar", pSar), ("less", pLess), ("sless", pSless)]
/-- of what comes of the parts' worths -/
def mTrue (_ : List Int) (_ : List Kd) (_ : List Wo) : Wo := .t true
def mFalse (_ : List Int) (_ : List Kd) (_ : List Wo) : Wo := .t false
def mNumber (ms : List Int) (_ : List Kd) (_ : List Wo) : Wo := .n (ms.getD 1 0)
def mNotW (_ : List Int) (_ : List Kd) : List Wo → Wo
  | [.t a] => .t (!a)
  | _ => .t false
def mAndW (_ : List Int) (_ : List Kd) : List Wo → Wo
  | [.t a, .t b] => .t (a && b)
  | _ => .t false
def mOrW (_ : List Int) (_ : List Kd) : List Wo → Wo
  | [.t a, .t b] => .t (a || b)
  | _ => .t false
def mSame (_ : List Int) (_ : List Kd) : List Wo → Wo
  | [x, y] => .t (decide (x = y))
  | _ => .t false
def mChoose (_ : List Int) (_ : List Kd) : List Wo → Wo
  | [.t c, x, y] => if c then x else y
  | _ => .t false
def mFlip (_ : List Int) : List Kd → List Wo → Wo
  | [.word n], [.n x] => .n (2 ^ n - 1 - x)
  | _, _ => .t false
def mPair (p : Nat → Int → Int → Wo) (_ : List Int) : List Kd → List Wo → Wo
  | [.word n, _], [.n x, .n y] => p n x y
  | _, _ => .t false
def mJoinW (_ : List Int) : List Kd → List Wo → Wo
  | [_, .word m], [.n x, .n y] => .n (x * 2 ^ m + y)
  | _, _ => .t false
def mCut : List Int → List Kd → List Wo → Wo
  | [h, l], _, [.n x] => .n (x / 2 ^ l.toNat % 2 ^ (h - l + 1).toNat)
  | _, _, _ => .t false
def mRead (_ : List Int) (_ : List Kd) : List Wo → Wo
  | [.a xs, .n i] => .n (xs.getD i.toNat 0)
  | _ => .t false
def mWrite (_ : List Int) (_ : List Kd) : List Wo → Wo
  | [.a xs, .n i, .n v] => .a (xs.take i.toNat ++ [v] ++ xs.drop (i.toNat + 1))
  | _ => .t false
def wordMeans : List (Str × (List Int → List Kd → List Wo → Wo)) := [("number", mNumber), ("true", mTrue), ("false", mFalse), ("not", mNotW), ("and", mAndW), ("or", mOrW), ("same", mSame), ("choose", mChoose), ("flip", mFlip), ("band", mPair pBand), ("bor", mPair pBor), ("bxor", mPair pBxor), ("add", mPair pAdd), ("sub", mPair pSub),
  ("mul", mPair pMul), ("div", mPair pDiv), ("rest", mPair pRest), ("shl", mPair pShl), ("shr", mPair pShr), ("sar", mPair pSar), ("less", mPair pLess), ("sless", mPair pSless), ("join", mJoinW), ("cut", mCut), ("read", mRead), ("write", mWrite)]
def meanOf (w : Str) (ms : List Int) (ks : List Kd) (ws : List Wo) : Wo := ((wordMeans.lookup w).map fun f => f ms ks ws).getD (.t false)
def plainW : Kd → Wo
  | .truth => .t false
  | .word _ => .n 0
  | .arr p _ => .a (List.replicate (2 ^ p) 0)
def woAt (ws : List Wo) (i : Nat) : Wo := ws.getD i (.t false)
def ndMean (given : Str → Option Wo) (ts : Ts) (ws : List Wo) : Nd → Wo
  | .nm x k => (given x).getD (plainW k)
  | .ap w ps ms => meanOf w ms (ps.map (kindAt ts)) (ps.map (woAt ws))
/-- the worths of all terms -/
structure IsMeans (given : Str → Option Wo) (ts : Ts) (ws : List Wo) : Prop where
  len : ws.length = ts.length
  at_ : ∀ i t, ts[i]? = some t → woAt ws i = ndMean given ts ws t.1
/-- a worth handed in -/
def WoD (d : D) (wo : Wo) : Prop := d = wo.d ∨ ∃ xs, wo = .a xs ∧ d = .lst (dIs xs)
structure MdlOk (ts : Ts) (mv : List (Str × Wo)) : Prop where
  asc : mv.Pairwise fun p q => ltT p.1 q.1 = true
  ok : ∀ p ∈ mv, p.1.length ≥ 1 ∧ p.1.length ≤ 1000 ∧ ∃ i k, ndAt ts i = some (Nd.nm p.1 k) ∧ p.2.fits k
/-- a model's pairs as they are handed in -/
def MdlD : List D → List (Str × Wo) → Prop
  | [], [] => True
  | d :: ds, p :: ps => (∃ e, d = .tup [.str p.1, e] ∧ WoD e p.2) ∧ MdlD ds ps
  | _, _ => False
/-- all terms under some -/
def Under (ts : Ts) (l : List Nat) (i : Nat) : Prop := ∀ P : Nat → Prop, (∀ j ∈ l, P j) → (∀ j w ps ms, P j → ndAt ts j = some (Nd.ap w ps ms) → ∀ p ∈ ps, P p) → P i
/-- at most m terms under these -/
def UBm (ts : Ts) (l : List Nat) (m : Nat) : Prop := ∀ F : List Nat, F.Nodup → (∀ i ∈ F, Under ts l i) → F.length ≤ m
abbrev UB (ts : Ts) (l : List Nat) : Prop := UBm ts l 63
/-! ## promises: meanings -/
def sptwo_to (c : Cl) : DSp := fun ds st R xq => ∃ n : Nat, ds = [.int n] ∧ n ≤ 1000 ∧ R (.int (2 ^ n)) st
def spall_under (c : Cl) : DSp := fun ds st R xq => ∃ (B : BH) (ts : Ts) (d : D) (l : List Nat), ds = [.hdl B.b, d] ∧ BankAt c B ts st ∧ BankOk ts ∧ SeqA [] st d (dNs l) ∧ l.length ≤ 1000 ∧ (∀ i ∈ l, i < ts.length) ∧ UB ts l ∧
  ∀ (ys : List Nat) (st' : Sto), (∀ i, i ∈ ys ↔ Under ts l i) → ys.Pairwise (· < ·) → Fx [] st st' → R (.lst (dNs ys)) st'
def spas_signed (c : Cl) : DSp := fun ds st R xq => ∃ (n : Nat) (x : Int), ds = [.int n, .int x] ∧ 1 ≤ n ∧ n ≤ 8 ∧ R (.int (asSg n x)) st
def spPair (p : Nat → Int → Int → Wo) : DSp := fun ds st R xq => ∃ (n : Nat) (x y : Int), ds = [.int n, .int x, .int y] ∧ 1 ≤ n ∧ n ≤ 8 ∧ 0 ≤ x ∧ x < 2 ^ n ∧ 0 ≤ y ∧ y < 2 ^ n ∧ R (p n x y).d st
def spdiv_of (c : Cl) : DSp := spPair pDiv
def sprest_of (c : Cl) : DSp := spPair pRest
def spshl_of (c : Cl) : DSp := spPair pShl
def spshr_of (c : Cl) : DSp := spPair pShr
def spsar_of (c : Cl) : DSp := spPair pSar
def spband_of (c : Cl) : DSp := spPair pBand
def spbor_of (c : Cl) : DSp := spPair pBor
def spbxor_of (c : Cl) : DSp := spPair pBxor
def spadd_of (c : Cl) : DSp := spPair pAdd
def spsub_of (c : Cl) : DSp := spPair pSub
def spmul_of (c : Cl) : DSp := spPair pMul
def spless_of (c : Cl) : DSp := spPair pLess
def spsless_of (c : Cl) : DSp := spPair pSless
/-- the parts' worths fit their kinds -/
def Fits : List Wo → List Kd → Prop
  | [], [] => True
  | w :: ws, k :: ks => w.fits k ∧ k.ok ∧ Fits ws ks
  | _, _ => False
def spmoved_worth (c : Cl) : DSp := fun ds st R xq => ∃ (w : Str) (ms : List Int) (ks : List Kd) (ws : List Wo) (k : Kd), ds = [.str w, .tup (dIs ms), .lst (ks.map Kd.d), .lst (ws.map Wo.d)] ∧ (w = "join" ∨ w = "cut" ∨ w = "read" ∨ w = "write") ∧ kindOf w ks (dIs ms) = some k ∧ Fits ws ks ∧ R (meanOf w ms ks ws).d st
def spworth_by (c : Cl) : DSp := fun ds st R xq => ∃ (w : Str) (ms : List Int) (ks : List Kd) (ws : List Wo) (k : Kd), ds = [.str w, .tup (dIs ms), .lst (ks.map Kd.d), .lst (ws.map Wo.d)] ∧ kindOf w ks (dIs ms) = some k ∧ Fits ws ks ∧ R (meanOf w ms ks ws).d st
def spplain_worth (c : Cl) : DSp := fun ds st R xq => ∃ k : Kd, ds = [k.d] ∧ k.ok ∧ R (plainW k).d st
def spis_number (c : Cl) : DSp := fun ds st R xq => ∃ (d : D) (n : Nat), ds = [d, .int n] ∧ n ≤ 1000 ∧ (tyD st d).isSome = true ∧ R (.bl (isW d 0 (2 ^ n - 1))) st
def spis_worth (c : Cl) : DSp := fun ds st R xq => ∃ (d : D) (wo : Wo) (k : Kd), ds = [d, k.d] ∧ WoD d wo ∧ wo.fits k ∧ k.ok ∧ R (.bl true) st
def spneed_model (c : Cl) : DSp := fun ds st R xq => ∃ (B : BH) (ts : Ts) (d : D) (xs : List D) (mv : List (Str × Wo)), ds = [.hdl B.b, d] ∧ BankAt c B ts st ∧ BankOk ts ∧ SeqA [] st d xs ∧ MdlD xs mv ∧ MdlOk ts mv ∧ ∀ st', Fx [] st st' → R .non st'
def spworths_under (c : Cl) : DSp := fun ds st R xq => ∃ (B : BH) (ts : Ts) (d dm : D) (l : List Nat) (xs : List D) (mv : List (Str × Wo)) (ws : List Wo), ds = [.hdl B.b, d, dm] ∧ BankAt c B ts st ∧ BankOk ts ∧ UB ts l ∧ SeqA [] st d (dNs l) ∧ l.length ≤ 1000 ∧ (∀ i ∈ l, i < ts.length) ∧ SeqA [] st dm xs ∧ (dm = .lst xs ∨ ∃ j, dm = .hdl j) ∧ MdlD xs mv ∧ MdlOk ts mv ∧ IsMeans (fun x => mv.lookup x) ts ws ∧
  ∀ (h : Nat) (kvs : List (Key × D)) (st' : Sto), Fx [] st st' → st.length ≤ h → st'[h]? = some (.dK kvs) → (∀ i, Under ts l i → valD kvs (.inl i) = some (woAt ws i).d) → R (.hdl h) st'
def spworth_of (c : Cl) : DSp := fun ds st R xq => ∃ (B : BH) (ts : Ts) (i : Nat) (dm : D) (xs : List D) (mv : List (Str × Wo)) (ws : List Wo), ds = [.hdl B.b, .int i, dm] ∧ BankAt c B ts st ∧ BankOk ts ∧ UB ts [i] ∧ i < ts.length ∧ SeqA [] st dm xs ∧ (dm = .lst xs ∨ ∃ j, dm = .hdl j) ∧ MdlD xs mv ∧ MdlOk ts mv ∧ IsMeans (fun x => mv.lookup x) ts ws ∧
  ∀ st', Fx [] st st' → R (woAt ws i).d st'

/-! ## promises: the draws' spring -/
def SprC (n : Nat) (cell : Cell) : Prop := ∃ f s q : Int, cell = .lst [.int f, .int s, .int q] ∧ 0 ≤ f ∧ f < 2 ^ 20000 ∧ 0 ≤ s ∧ s < 2305843009213693951 ∧ 0 ≤ q ∧ q ≤ n
def Spr (st : Sto) (b n : Nat) : Prop := ∃ cell, st[b]? = some cell ∧ SprC n cell
/-- behind draws from the spring at b: at most n in all -/
structure SX (b : Nat) (st : Sto) (n : Nat) (st' : Sto) : Prop where
  fx : Fx [b] st st'
  spr : Spr st' b n
theorem Spr.lt {st : Sto} {b n : Nat} (h : Spr st b n) : b < st.length := let ⟨_, e, _⟩ := h; (List.getElem?_eq_some_iff.mp e).1
theorem SX.trans {b n m : Nat} {x y z : Sto} (h : SX b x n y) (h' : SX b y m z) : SX b x m z := ⟨h.fx.trans h'.fx fun k hk => .inl hk, h'.spr⟩
theorem Spr.mono {st : Sto} {b n m : Nat} (h : Spr st b n) (l : n ≤ m) : Spr st b m := by
  obtain ⟨cell, e, f, s, q, rfl, a1, a2, a3, a4, a5, a6⟩ := h
  exact ⟨_, e, f, s, q, rfl, a1, a2, a3, a4, a5, by omega⟩
theorem SX.mono {b n m : Nat} {x y : Sto} (h : SX b x n y) (l : n ≤ m) : SX b x m y := ⟨h.fx, h.spr.mono l⟩
theorem Spr.fx {st st' : Sto} {b n : Nat} {F : List Nat} (h : Spr st b n) (f : Fx F st st') (hb : b ∉ F) : Spr st' b n := let ⟨c, e, k⟩ := h; ⟨c, f.at e hb, k⟩
def sp_law_spring (c : Cl) : DSp := fun ds st R xq => ∃ ns : List Int, ds = [.scr (dIs ns)] ∧ ns.length ≤ 1000 ∧ ∀ cell, SprC 0 cell → R (.hdl st.length) (st ++ [cell])
def sp_law_draw (c : Cl) : DSp := fun ds st R xq => ∃ (b : Nat) (m : Int) (n : Nat), ds = [.hdl b, .int m] ∧ Spr st b n ∧ 0 < m ∧ m < 2 ^ 100 ∧ n + 1 < 2 ^ 60 ∧ ∀ (r : Int) (st' : Sto), 0 ≤ r → r < m → SX b st (n + 1) st' → st'.length = st.length → R (.int r) st'
/-- names, all unlike -/
structure NmsOk (xs : List Str) : Prop where
  ok : ∀ x ∈ xs, isNm x = true
  nd : xs.Nodup
def sp_law_words (c : Cl) : DSp := fun ds st R xq => ∃ (b n : Nat) (m : Nat), ds = [.hdl b, .int m] ∧ Spr st b n ∧ m ≤ 8 ∧ n + 100 < 2 ^ 60 ∧ ∀ (xs : List Str) (h : Nat) (st' : Sto), xs.length = m → NmsOk xs → SX b st (n + 100) st' → st.length ≤ h → st'[h]? = some (.lst (xs.map D.str)) → R (.hdl h) st'

/-! ## promises: cuts, joins, choices -/
/-- the bits of a number, the highest first -/
def bitL (x : Int) : Nat → List Int
  | 0 => []
  | k + 1 => (x / 2 ^ k % 2) :: bitL x k
def numL (l : List Int) : Int := l.foldl (fun a b => 2 * a + b) 0
def Bits (l : List Int) : Prop := l.length ≤ 8 ∧ ∀ b ∈ l, b = 0 ∨ b = 1
def sp_law_signs (c : Cl) : DSp := fun ds st R xq => ∃ (x : Int) (n : Nat), ds = [.int x, .int n] ∧ n ≤ 8 ∧ R (.lst (dIs (bitL x n))) st
def sp_law_number (c : Cl) : DSp := fun ds st R xq => ∃ l : List Int, ds = [.lst (dIs l)] ∧ Bits l ∧ R (.int (numL l)) st
def sp_law_whole (c : Cl) : DSp := fun ds st R xq => ∃ u v : Int, ds = [.int u, .int v] ∧ R (.bl (decide (u = v))) st
/-- terms stay what they are -/
def Keep (ts ts' : Ts) : Prop := ∀ j m, ndAt ts j = some m → ndAt ts' j = some m
/-- a term's kind and worth, and how many lie under it: so it stays -/
structure TmOk (mv : List (Str × Wo)) (ts : Ts) (t : Nat) (k : Kd) (wo : Wo) (m : Nat) : Prop where
  lt : t < ts.length
  kd : ∀ ts', BankOk ts' → Keep ts ts' → kindAt ts' t = k
  wo : ∀ ts', BankOk ts' → Keep ts ts' → ∀ ws, IsMeans (fun x => mv.lookup x) ts' ws → woAt ws t = wo
  ub : ∀ ts', BankOk ts' → Keep ts ts' → UBm ts' [t] m
def sp_law_cuts (c : Cl) : DSp := fun ds st R xq => ∃ (B : BH) (ts : Ts) (t n m : Nat) (x : Int) (xs : List D) (mv : List (Str × Wo)), ds = [.hdl B.b, .int t, .lst (dIs (bitL x n)), .lst xs] ∧ BankAt c B ts st ∧ BankOk ts ∧ ts.length + 200 < 100000 ∧ 1 ≤ n ∧ n ≤ 8 ∧ 0 ≤ x ∧ x < 2 ^ n ∧ TmOk mv ts t (.word n) (.n x) m ∧ m ≤ 20 ∧ MdlD xs mv ∧ MdlOk ts mv ∧
  ∀ (ts' : Ts) (st' : Sto), BankAt c B ts' st' → BankOk ts' → Keep ts ts' → ts'.length ≤ ts.length + 100 → Fx B.fp st st' → R (.bl true) st'
def sp_law_chosen (c : Cl) : DSp := fun ds st R xq => ∃ (B : BH) (ts : Ts) (t u n m : Nat) (x y : Int) (xs : List D) (mv : List (Str × Wo)), ds = [.hdl B.b, .int t, .int u, .lst [.int x, .int y], .lst xs] ∧ BankAt c B ts st ∧ BankOk ts ∧ ts.length + 100 < 100000 ∧ TmOk mv ts t (.word n) (.n x) m ∧ TmOk mv ts u (.word n) (.n y) m ∧ m ≤ 3 ∧ MdlD xs mv ∧ MdlOk ts mv ∧
  ∀ (ts' : Ts) (st' : Sto), BankAt c B ts' st' → BankOk ts' → Keep ts ts' → Fx B.fp st st' → R (.bl true) st'
def splaw (c : Cl) : DSp := fun ds st R xq => ∃ ns : List Int, ds = [.scr (dIs ns)] ∧ ns.length ≤ 1000 ∧ ∀ st', R (.bl true) st'

def tbPAIRS (c : Cl) : List (Str × Addr) := [("band", c.d_band_of), ("bor", c.d_bor_of), ("bxor", c.d_bxor_of), ("add", c.d_add_of), ("sub", c.d_sub_of), ("mul", c.d_mul_of), ("div", c.d_div_of), ("rest", c.d_rest_of), ("shl", c.d_shl_of), ("shr", c.d_shr_of), ("sar", c.d_sar_of), ("less", c.d_less_of), ("sless", c.d_sless_of)]
def tbRULES (c : Cl) : List (Str × Addr) := [("true", c.d_of_nothing), ("false", c.d_of_nothing), ("number", c.d_of_marks), ("not", c.d_of_truth), ("and", c.d_of_truths), ("or", c.d_of_truths), ("same", c.d_of_alike), ("less", c.d_of_less), ("sless", c.d_of_less), ("choose", c.d_of_choice), ("flip", c.d_of_word), ("band", c.d_of_words), ("bor", c.d_of_words), ("bxor", c.d_of_words), ("add", c.d_of_words), ("sub", c.d_of_words), ("mul", c.d_of_words), ("div", c.d_of_words), ("rest", c.d_of_words), ("shl", c.d_of_words), ("shr", c.d_of_words), ("sar", c.d_of_words), ("join", c.d_of_joined), ("cut", c.d_of_cut), ("read", c.d_of_read), ("write", c.d_of_written)]
def cbPAIRS (c : Cl) : List (Addr × DSp) := [(c.d_band_of, spband_of c), (c.d_bor_of, spbor_of c), (c.d_bxor_of, spbxor_of c), (c.d_add_of, spadd_of c), (c.d_sub_of, spsub_of c), (c.d_mul_of, spmul_of c), (c.d_div_of, spdiv_of c), (c.d_rest_of, sprest_of c), (c.d_shl_of, spshl_of c), (c.d_shr_of, spshr_of c), (c.d_sar_of, spsar_of c), (c.d_less_of, spless_of c), (c.d_sless_of, spsless_of c)]
def cbRULES (c : Cl) : List (Addr × DSp) := [(c.d_of_nothing, spof_nothing c), (c.d_of_marks, spof_marks c), (c.d_of_truth, spof_truth c), (c.d_of_truths, spof_truths c), (c.d_of_alike, spof_alike c), (c.d_of_less, spof_less c), (c.d_of_choice, spof_choice c), (c.d_of_word, spof_word c), (c.d_of_words, spof_words c), (c.d_of_joined, spof_joined c), (c.d_of_cut, spof_cut c), (c.d_of_read, spof_read c), (c.d_of_written, spof_written c)]
/-- two_to -/
def wtwo_to (c : Cl) : MS :=
  (sRt (mOp dShl (mC (.int 1)) (mVar 0)))

/-- as_signed -/
def was_signed (c : Cl) : MS :=
  (sRt (mIf (mTest (mOp dGe (mVar 1) (mCall (sptwo_to c) (maCons (mOp dSub (mVar 0) (mC (.int 1))) maNil)))) (mOp dSub (mVar 1) (mCall (sptwo_to c) (maCons (mVar 0) maNil))) (mVar 1)))

/-- div_of -/
def wdiv_of (c : Cl) : MS :=
  (sRt (mIf (mTest (mOp (dEQ false) (mVar 2) (mC (.int 0)))) (mOp dSub (mCall (sptwo_to c) (maCons (mVar 0) maNil)) (mC (.int 1))) (mOp dDiv (mVar 1) (mVar 2))))

/-- rest_of -/
def wrest_of (c : Cl) : MS :=
  (sRt (mIf (mTest (mOp (dEQ false) (mVar 2) (mC (.int 0)))) (mVar 1) (mOp dMod (mVar 1) (mVar 2))))

/-- shl_of -/
def wshl_of (c : Cl) : MS :=
  (sRt (mOp dMod (mOp dShl (mVar 1) (mVar 2)) (mCall (sptwo_to c) (maCons (mVar 0) maNil))))

/-- sar_of -/
def wsar_of (c : Cl) : MS :=
  (sRt (mOp dMod (mOp dShr (mCall (spas_signed c) (maCons (mVar 0) (maCons (mVar 1) maNil))) (mVar 2)) (mCall (sptwo_to c) (maCons (mVar 0) maNil))))

/-- shr_of -/
def wshr_of (c : Cl) : MS :=
  (sRt (mOp dShr (mVar 1) (mVar 2)))

/-- band_of -/
def wband_of (c : Cl) : MS :=
  (sRt (mOp dBand (mVar 1) (mVar 2)))

/-- bor_of -/
def wbor_of (c : Cl) : MS :=
  (sRt (mOp dBor (mVar 1) (mVar 2)))

/-- bxor_of -/
def wbxor_of (c : Cl) : MS :=
  (sRt (mOp dBxor (mVar 1) (mVar 2)))

/-- add_of -/
def wadd_of (c : Cl) : MS :=
  (sRt (mOp dMod (mOp dAddA (mVar 1) (mVar 2)) (mCall (sptwo_to c) (maCons (mVar 0) maNil))))

/-- sub_of -/
def wsub_of (c : Cl) : MS :=
  (sRt (mOp dMod (mOp dSub (mVar 1) (mVar 2)) (mCall (sptwo_to c) (maCons (mVar 0) maNil))))

/-- mul_of -/
def wmul_of (c : Cl) : MS :=
  (sRt (mOp dMod (mOp dMulA (mVar 1) (mVar 2)) (mCall (sptwo_to c) (maCons (mVar 0) maNil))))

/-- less_of -/
def wless_of (c : Cl) : MS :=
  (sRt (mOp dLt (mVar 1) (mVar 2)))

/-- sless_of -/
def wsless_of (c : Cl) : MS :=
  (sRt (mOp dLt (mCall (spas_signed c) (maCons (mVar 0) (maCons (mVar 1) maNil))) (mCall (spas_signed c) (maCons (mVar 0) (maCons (mVar 2) maNil)))))

/-- moved_worth -/
def wmoved_worth (c : Cl) : MS :=
  (sSeq (sIf (mTest (mOp (dEQ false) (mVar 0) (mC (.str "join"))))
  (sRt (mOp dAddA (mOp dShl (mOp dIx (mVar 3) (mC (.int 0))) (mOp dIx (mOp dIx (mVar 2) (mC (.int 1))) (mC (.int 1)))) (mOp dIx (mVar 3) (mC (.int 1)))))
  sNx)
  (sSeq (sIf (mTest (mOp (dEQ false) (mVar 0) (mC (.str "cut"))))
  (sSeq (sAs (mVar 1) (gTp 2 (gsCons (gNm 4) (gsCons (gNm 5) gsNil))))
  (sRt (mOp dMod (mOp dShr (mOp dIx (mVar 3) (mC (.int 0))) (mVar 5)) (mCall (sptwo_to c) (maCons (mOp dAddA (mOp dSub (mVar 4) (mVar 5)) (mC (.int 1))) maNil)))))
  sNx)
  (sSeq (sIf (mTest (mOp (dEQ false) (mVar 0) (mC (.str "read"))))
  (sRt (mOp dIx (mOp dIx (mVar 3) (mC (.int 0))) (mOp dIx (mVar 3) (mC (.int 1)))))
  sNx)
  (sRt (mOp dAddA (mOp dAddA (mSlA (mOp dIx (mVar 3) (mC (.int 0))) moNone (moSome (mOp dIx (mVar 3) (mC (.int 1))))) (mTup (maCons (mOp dIx (mVar 3) (mC (.int 2))) maNil))) (mSlA (mOp dIx (mVar 3) (mC (.int 0))) (moSome (mOp dAddA (mOp dIx (mVar 3) (mC (.int 1))) (mC (.int 1)))) moNone))))))

/-- worth_by -/
def wworth_by (c : Cl) : MS :=
  (sSeq (sIf (mTest (mOp (dEQ false) (mVar 0) (mC (.str "number"))))
  (sRt (mOp dIx (mVar 1) (mC (.int 1))))
  sNx)
  (sSeq (sIf (mOr (mTest (mOp (dEQ false) (mVar 0) (mC (.str "true")))) (mTest (mOp (dEQ false) (mVar 0) (mC (.str "false")))))
  (sRt (mOp (dEQ false) (mVar 0) (mC (.str "true"))))
  sNx)
  (sSeq (sIf (mTest (mOp (dEQ false) (mVar 0) (mC (.str "not"))))
  (sRt (mNotV (mOp dIx (mVar 3) (mC (.int 0)))))
  sNx)
  (sSeq (sIf (mTest (mOp (dEQ false) (mVar 0) (mC (.str "and"))))
  (sRt (mAndV (mOp dIx (mVar 3) (mC (.int 0))) (mOp dIx (mVar 3) (mC (.int 1)))))
  sNx)
  (sSeq (sIf (mTest (mOp (dEQ false) (mVar 0) (mC (.str "or"))))
  (sRt (mOrV (mOp dIx (mVar 3) (mC (.int 0))) (mOp dIx (mVar 3) (mC (.int 1)))))
  sNx)
  (sSeq (sIf (mTest (mOp (dEQ false) (mVar 0) (mC (.str "same"))))
  (sRt (mOp (dEQ false) (mOp dIx (mVar 3) (mC (.int 0))) (mOp dIx (mVar 3) (mC (.int 1)))))
  sNx)
  (sSeq (sIf (mTest (mOp (dEQ false) (mVar 0) (mC (.str "choose"))))
  (sRt (mIf (mTest (mOp dIx (mVar 3) (mC (.int 0)))) (mOp dIx (mVar 3) (mC (.int 1))) (mOp dIx (mVar 3) (mC (.int 2)))))
  sNx)
  (sSeq (sIf (mTest (mOp (dEQ false) (mVar 0) (mC (.str "flip"))))
  (sRt (mOp dSub (mOp dSub (mCall (sptwo_to c) (maCons (mOp dIx (mOp dIx (mVar 2) (mC (.int 0))) (mC (.int 1))) maNil)) (mC (.int 1))) (mOp dIx (mVar 3) (mC (.int 0)))))
  sNx)
  (sSeq (sIf (mTest (mOp (dInKD c.t_PAIRS (tbPAIRS c) false) (mVar 0) (mC (.raw (.ref c.t_PAIRS)))))
  (sSeq (sAs (mOp (dIxKD c.t_PAIRS (tbPAIRS c)) (mC (.raw (.ref c.t_PAIRS))) (mVar 0)) (gNm 4))
  (sRt (mCallT 4 (cbPAIRS c) (maCons (mOp dIx (mOp dIx (mVar 2) (mC (.int 0))) (mC (.int 1))) (maCons (mOp dIx (mVar 3) (mC (.int 0))) (maCons (mOp dIx (mVar 3) (mC (.int 1))) maNil))))))
  sNx)
  (sRt (mCall (spmoved_worth c) (maCons (mVar 0) (maCons (mVar 1) (maCons (mVar 2) (maCons (mVar 3) maNil)))))))))))))))

/-- plain_worth -/
def wplain_worth (c : Cl) : MS :=
  (sSeq (sIf (mTest (mOp (dEQ false) (mVar 0) (mC (.tup [(.str "truth")]))))
  (sRt (mC (.bl false)))
  sNx)
  (sSeq (sIf (mTest (mOp (dEQ false) (mOp dIx (mVar 0) (mC (.int 0))) (mC (.str "word"))))
  (sRt (mC (.int 0)))
  sNx)
  (sRt (mOp dMulA (mTup (maCons (mC (.int 0)) maNil)) (mCall (sptwo_to c) (maCons (mOp dIx (mVar 0) (mC (.int 1))) maNil))))))

/-- is_number -/
def wis_number (c : Cl) : MS :=
  (sRt (mAndV (mCa dIsi (maCons (mVar 0) (maCons (mC (.raw (.ty "int"))) maNil))) (mAndV (mNotV (mCa dIsi (maCons (mVar 0) (maCons (mC (.raw (.ty "bool"))) maNil)))) (mChn dLe dLt (mC (.int 0)) (mVar 0) (mCall (sptwo_to c) (maCons (mVar 1) maNil))))))

/-- is_worth -/
def wis_worth (c : Cl) : MS :=
  (sSeq (sIf (mTest (mOp (dEQ false) (mVar 1) (mC (.tup [(.str "truth")]))))
  (sRt (mCa dIsi (maCons (mVar 0) (maCons (mC (.raw (.ty "bool"))) maNil))))
  sNx)
  (sSeq (sIf (mTest (mOp (dEQ false) (mOp dIx (mVar 1) (mC (.int 0))) (mC (.str "word"))))
  (sRt (mCall (spis_number c) (maCons (mVar 0) (maCons (mOp dIx (mVar 1) (mC (.int 1))) maNil))))
  sNx)
  (sSeq (sIf (mOr (mNot (mTest (mCa (dIsiT ["tuple", "list"]) (maCons (mVar 0) (maCons (mTup (maCons (mC (.raw (.ty "tuple"))) (maCons (mC (.raw (.ty "list"))) maNil))) maNil))))) (mTest (mOp (dEQ true) (mCa dLen (maCons (mVar 0) maNil)) (mCall (sptwo_to c) (maCons (mOp dIx (mVar 1) (mC (.int 1))) maNil)))))
  (sRt (mC (.bl false)))
  sNx)
  (sRt (mCa dAll (maCons (mLc (miSeq (mVar 0)) (.nm 2) mYes (mCall (spis_number c) (maCons (mVar 2) (maCons (mOp dIx (mVar 1) (mC (.int 2))) maNil))) [2]) maNil))))))

/-- is_whole -/
def wis_whole (c : Cl) : MS :=
  (sRt (mAndV (mCa dIsi (maCons (mVar 0) (maCons (mC (.raw (.ty "int"))) maNil))) (mAndV (mNotV (mCa dIsi (maCons (mVar 0) (maCons (mC (.raw (.ty "bool"))) maNil)))) (mChn dLe dLe (mVar 1) (mVar 0) (mVar 2)))))

/-- as_kind -/
def was_kind (c : Cl) : MS :=
  (sSeq (sIf (mNot (mTest (mCa (dIsiT ["tuple", "list"]) (maCons (mVar 0) (maCons (mTup (maCons (mC (.raw (.ty "tuple"))) (maCons (mC (.raw (.ty "list"))) maNil))) maNil)))))
  (sRt (mC .non))
  sNx)
  (sSeq (sIf (mTest (mOp (dEQ false) (mCa dTuple (maCons (mVar 0) maNil)) (mC (.tup [(.str "truth")]))))
  (sRt (mC (.tup [(.str "truth")])))
  sNx)
  (sSeq (sIf (mAnd (mTest (mOp (dEQ false) (mCa dLen (maCons (mVar 0) maNil)) (mC (.int 2)))) (mAnd (mTest (mOp (dEQ false) (mOp dIx (mVar 0) (mC (.int 0))) (mC (.str "word")))) (mTest (mCall (spis_whole c) (maCons (mOp dIx (mVar 0) (mC (.int 1))) (maCons (mC (.int 1)) (maCons (mC (.int 8)) maNil)))))))
  (sRt (mCa dTuple (maCons (mVar 0) maNil)))
  sNx)
  (sSeq (sIf (mOr (mTest (mOp (dEQ true) (mCa dLen (maCons (mVar 0) maNil)) (mC (.int 3)))) (mOr (mTest (mOp (dEQ true) (mOp dIx (mVar 0) (mC (.int 0))) (mC (.str "array")))) (mNot (mTest (mCall (spis_whole c) (maCons (mOp dIx (mVar 0) (mC (.int 1))) (maCons (mC (.int 1)) (maCons (mC (.int 3)) maNil))))))))
  (sRt (mC .non))
  sNx)
  (sRt (mIf (mTest (mCall (spis_whole c) (maCons (mOp dIx (mVar 0) (mC (.int 2))) (maCons (mC (.int 1)) (maCons (mC (.int 8)) maNil))))) (mCa dTuple (maCons (mVar 0) maNil)) (mC .non)))))))

/-- of_nothing -/
def wof_nothing (c : Cl) : MS :=
  (sRt (mIf (mAnd (mTest (mOp (dEQ false) (mVar 0) (mLst maNil))) (mTest (mOp (dEQ false) (mVar 1) (mTup maNil)))) (mC (.tup [(.str "truth")])) (mC .non)))

/-- of_marks -/
def wof_marks (c : Cl) : MS :=
  (sSeq (sIf (mOr (mTest (mOp (dEQ true) (mVar 0) (mLst maNil))) (mOr (mTest (mOp (dEQ true) (mCa dLen (maCons (mVar 1) maNil)) (mC (.int 2)))) (mNot (mTest (mCall (spis_whole c) (maCons (mOp dIx (mVar 1) (mC (.int 0))) (maCons (mC (.int 1)) (maCons (mC (.int 8)) maNil))))))))
  (sRt (mC .non))
  sNx)
  (sRt (mIf (mTest (mCall (spis_whole c) (maCons (mOp dIx (mVar 1) (mC (.int 1))) (maCons (mC (.int 0)) (maCons (mOp dSub (mOp dShl (mC (.int 1)) (mOp dIx (mVar 1) (mC (.int 0)))) (mC (.int 1))) maNil))))) (mTup (maCons (mC (.str "word")) (maCons (mOp dIx (mVar 1) (mC (.int 0))) maNil))) (mC .non))))

/-- of_truth -/
def wof_truth (c : Cl) : MS :=
  (sRt (mIf (mAnd (mTest (mOp (dEQ false) (mVar 0) (mLst (maCons (mC (.tup [(.str "truth")])) maNil)))) (mTest (mOp (dEQ false) (mVar 1) (mTup maNil)))) (mC (.tup [(.str "truth")])) (mC .non)))

/-- of_truths -/
def wof_truths (c : Cl) : MS :=
  (sRt (mIf (mAnd (mTest (mOp (dEQ false) (mVar 0) (mLst (maCons (mC (.tup [(.str "truth")])) (maCons (mC (.tup [(.str "truth")])) maNil))))) (mTest (mOp (dEQ false) (mVar 1) (mTup maNil)))) (mC (.tup [(.str "truth")])) (mC .non)))

/-- of_alike -/
def wof_alike (c : Cl) : MS :=
  (sRt (mIf (mAnd (mTest (mOp (dEQ false) (mCa dLen (maCons (mVar 0) maNil)) (mC (.int 2)))) (mAnd (mTest (mOp (dEQ false) (mOp dIx (mVar 0) (mC (.int 0))) (mOp dIx (mVar 0) (mC (.int 1))))) (mTest (mOp (dEQ false) (mVar 1) (mTup maNil))))) (mC (.tup [(.str "truth")])) (mC .non)))

/-- of_words -/
def wof_words (c : Cl) : MS :=
  (sSeq (sIf (mOr (mTest (mOp dIsN (mCall (spof_alike c) (maCons (mVar 0) (maCons (mVar 1) maNil))) (mC .non))) (mTest (mOp (dEQ true) (mOp dIx (mOp dIx (mVar 0) (mC (.int 0))) (mC (.int 0))) (mC (.str "word")))))
  (sRt (mC .non))
  sNx)
  (sRt (mOp dIx (mVar 0) (mC (.int 0)))))

/-- of_less -/
def wof_less (c : Cl) : MS :=
  (sRt (mIf (mTest (mOp dIsN (mCall (spof_words c) (maCons (mVar 0) (maCons (mVar 1) maNil))) (mC .non))) (mC .non) (mC (.tup [(.str "truth")]))))

/-- of_choice -/
def wof_choice (c : Cl) : MS :=
  (sSeq (sIf (mOr (mTest (mOp (dEQ true) (mSlA (mVar 0) moNone (moSome (mC (.int 1)))) (mLst (maCons (mC (.tup [(.str "truth")])) maNil)))) (mTest (mOp dIsN (mCall (spof_alike c) (maCons (mSlA (mVar 0) (moSome (mC (.int 1))) moNone) (maCons (mVar 1) maNil))) (mC .non))))
  (sRt (mC .non))
  sNx)
  (sRt (mOp dIx (mVar 0) (mC (.int 1)))))

/-- of_word -/
def wof_word (c : Cl) : MS :=
  (sRt (mIf (mAnd (mTest (mOp (dEQ false) (mCa dLen (maCons (mVar 0) maNil)) (mC (.int 1)))) (mAnd (mTest (mOp (dEQ false) (mOp dIx (mOp dIx (mVar 0) (mC (.int 0))) (mC (.int 0))) (mC (.str "word")))) (mTest (mOp (dEQ false) (mVar 1) (mTup maNil))))) (mOp dIx (mVar 0) (mC (.int 0))) (mC .non)))

/-- of_joined -/
def wof_joined (c : Cl) : MS :=
  (sSeq (sIf (mOr (mTest (mOp (dEQ true) (mCa dLen (maCons (mVar 0) maNil)) (mC (.int 2)))) (mOr (mTest (mOp (dEQ true) (mVar 1) (mTup maNil))) (mTest (mOp (dEQ true) (mLc (miSeq (mVar 0)) (.nm 3) (mTest (mOp (dEQ true) (mOp dIx (mVar 3) (mC (.int 0))) (mC (.str "word")))) (mVar 3) [3]) (mLst maNil)))))
  (sRt (mC .non))
  sNx)
  (sSeq (sAs (mOp dAddA (mOp dIx (mOp dIx (mVar 0) (mC (.int 0))) (mC (.int 1))) (mOp dIx (mOp dIx (mVar 0) (mC (.int 1))) (mC (.int 1)))) (gNm 2))
  (sRt (mIf (mTest (mOp dLE (mVar 2) (mC (.int 8)))) (mTup (maCons (mC (.str "word")) (maCons (mVar 2) maNil))) (mC .non)))))

/-- of_cut -/
def wof_cut (c : Cl) : MS :=
  (sSeq (sIf (mOr (mTest (mOp dIsN (mCall (spof_word c) (maCons (mVar 0) (maCons (mTup maNil) maNil))) (mC .non))) (mOr (mTest (mOp (dEQ true) (mCa dLen (maCons (mVar 1) maNil)) (mC (.int 2)))) (mNot (mTest (mCall (spis_whole c) (maCons (mOp dIx (mVar 1) (mC (.int 0))) (maCons (mC (.int 0)) (maCons (mOp dSub (mOp dIx (mOp dIx (mVar 0) (mC (.int 0))) (mC (.int 1))) (mC (.int 1))) maNil))))))))
  (sRt (mC .non))
  sNx)
  (sRt (mIf (mTest (mCall (spis_whole c) (maCons (mOp dIx (mVar 1) (mC (.int 1))) (maCons (mC (.int 0)) (maCons (mOp dIx (mVar 1) (mC (.int 0))) maNil))))) (mTup (maCons (mC (.str "word")) (maCons (mOp dAddA (mOp dSub (mOp dIx (mVar 1) (mC (.int 0))) (mOp dIx (mVar 1) (mC (.int 1)))) (mC (.int 1))) maNil))) (mC .non))))

/-- of_read -/
def wof_read (c : Cl) : MS :=
  (sSeq (sIf (mOr (mTest (mOp (dEQ true) (mCa dLen (maCons (mVar 0) maNil)) (mC (.int 2)))) (mOr (mTest (mOp (dEQ true) (mVar 1) (mTup maNil))) (mOr (mTest (mOp (dEQ true) (mOp dIx (mOp dIx (mVar 0) (mC (.int 0))) (mC (.int 0))) (mC (.str "array")))) (mTest (mOp (dEQ true) (mOp dIx (mVar 0) (mC (.int 1))) (mTup (maCons (mC (.str "word")) (maCons (mOp dIx (mOp dIx (mVar 0) (mC (.int 0))) (mC (.int 1))) maNil))))))))
  (sRt (mC .non))
  sNx)
  (sRt (mTup (maCons (mC (.str "word")) (maCons (mOp dIx (mOp dIx (mVar 0) (mC (.int 0))) (mC (.int 2))) maNil)))))

/-- of_written -/
def wof_written (c : Cl) : MS :=
  (sSeq (sIf (mOr (mTest (mOp dIsN (mCall (spof_read c) (maCons (mSlA (mVar 0) moNone (moSome (mC (.int 2)))) (maCons (mVar 1) maNil))) (mC .non))) (mTest (mOp (dEQ true) (mSlA (mVar 0) (moSome (mC (.int 2))) moNone) (mLst (maCons (mTup (maCons (mC (.str "word")) (maCons (mOp dIx (mOp dIx (mVar 0) (mC (.int 0))) (mC (.int 2))) maNil))) maNil)))))
  (sRt (mC .non))
  sNx)
  (sRt (mOp dIx (mVar 0) (mC (.int 0)))))

/-- kind_by -/
def wkind_by (c : Cl) : MS :=
  (sSeq (sAs (mOp (dIxKD c.t_RULES (tbRULES c)) (mC (.raw (.ref c.t_RULES))) (mVar 0)) (gNm 3))
  (sRt (mCallT 3 (cbRULES c) (maCons (mVar 1) (maCons (mVar 2) maNil)))))

/-- is_name -/
def wis_name (c : Cl) : MS :=
  (sSeq (sIf (mOr (mNot (mTest (mCa dIsi (maCons (mVar 0) (maCons (mC (.raw (.ty "str"))) maNil))))) (mNot (mTest (mChn dLe dLe (mC (.int 1)) (mCa dLen (maCons (mVar 0) maNil)) (mC (.int 8))))))
  (sRt (mC (.bl false)))
  sNx)
  (sSeq (sIf (mOr (mTest (mOp (dInKD c.t_RULES (tbRULES c) false) (mVar 0) (mC (.raw (.ref c.t_RULES))))) (mTest (mOp (dIN false) (mVar 0) (mTup (maCons (mC (.str "name")) (maCons (mC (.str "array")) maNil))))))
  (sRt (mC (.bl false)))
  sNx)
  (sRt (mCa dAll (maCons (mLc (miStr (mVar 0)) (.nm 1) mYes (mOp (dIN false) (mVar 1) (mC (.str "abcdefghijklmnopqrstuvwxyz"))) [1]) maNil)))))

/-- need_term -/
def wneed_term (c : Cl) : MS :=
  (sIf (mNot (mTest (mCall (spis_whole c) (maCons (mVar 1) (maCons (mC (.int 0)) (maCons (mOp dSub (mCa dLen (maCons (mFld c.Bank 0 (mVar 0)) maNil)) (mC (.int 1))) maNil))))))
  sNever
  sNx)

/-- put_in -/
def wput_in (c : Cl) : MS :=
  (sSeq (sIf (mTest (mOp (dInN true) (mVar 1) (mFld c.Bank 2 (mVar 0))))
  (sSeq (sAs (mCa dLen (maCons (mFld c.Bank 0 (mVar 0)) maNil)) (gSbN (mFld c.Bank 2 (mVar 0)) (mVar 1)))
  (sSeq (sEx (mMe dApp (mFld c.Bank 0 (mVar 0)) (maCons (mVar 1) maNil)))
  (sEx (mMe dApp (mFld c.Bank 1 (mVar 0)) (maCons (mVar 2) maNil)))))
  sNx)
  (sRt (mOp dIxN (mFld c.Bank 2 (mVar 0)) (mVar 1))))

/-- Bank.__init__ -/
def wBank_DinitD (c : Cl) : MS :=
  (sSeq (sSetFld c.Bank 0 (mVar 0) (mLstH maNil))
  (sSeq (sSetFld c.Bank 1 (mVar 0) (mLstH maNil))
  (sSeq (sSetFld c.Bank 2 (mVar 0) mDicN)
  (sSetFld c.Bank 3 (mVar 0) mDic))))

/-- Bank.make -/
def wBank_make (c : Cl) : MS :=
  (sSeq (sIf (mTest (mOp (dInKD c.t_RULES (tbRULES c) true) (mVar 1) (mC (.raw (.ref c.t_RULES)))))
  sNever
  sNx)
  (sSeq (sFor (miSeq (mVar 2)) (gNm 4)
  (sEx (mCall (spneed_term c) (maCons (mVar 0) (maCons (mVar 4) maNil)))))
  (sSeq (sAs (mCall (spkind_by c) (maCons (mVar 1) (maCons (mLc (miSeq (mVar 2)) (.nm 4) mYes (mOp dIx (mFld c.Bank 1 (mVar 0)) (mVar 4)) [4]) (maCons (mCa dTuple (maCons (mVar 3) maNil)) maNil)))) (gNm 5))
  (sSeq (sIf (mTest (mOp dIsN (mVar 5) (mC .non)))
  sNever
  sNx)
  (sRt (mCall (spput_in c) (maCons (mVar 0) (maCons (mTup (maCons (mVar 1) (maCons (mCa dTuple (maCons (mVar 2) maNil)) (maCons (mCa dTuple (maCons (mVar 3) maNil)) maNil)))) (maCons (mVar 5) maNil)))))))))

/-- Bank.name -/
def wBank_name (c : Cl) : MS :=
  (sSeq (sAs (mCall (spas_kind c) (maCons (mVar 2) maNil)) (gNm 3))
  (sSeq (sIf (mNot (mTest (mCall (spis_name c) (maCons (mVar 1) maNil))))
  sNever
  sNx)
  (sSeq (sIf (mTest (mOp dIsN (mVar 3) (mC .non)))
  sNever
  sNx)
  (sSeq (sIf (mAnd (mTest (mOp (dIN false) (mVar 1) (mFld c.Bank 3 (mVar 0)))) (mTest (mOp (dEQ true) (mOp dIx (mFld c.Bank 1 (mVar 0)) (mOp dIx (mFld c.Bank 3 (mVar 0)) (mVar 1))) (mVar 3))))
  sNever
  sNx)
  (sSeq (sAs (mCall (spput_in c) (maCons (mVar 0) (maCons (mTup (maCons (mC (.str "name")) (maCons (mTup maNil) (maCons (mTup (maCons (mVar 1) (maCons (mVar 3) maNil))) maNil)))) (maCons (mVar 3) maNil)))) (gSb (mFld c.Bank 3 (mVar 0)) (mVar 1)))
  (sRt (mOp dIx (mFld c.Bank 3 (mVar 0)) (mVar 1))))))))

/-- Bank.kind -/
def wBank_kind (c : Cl) : MS :=
  (sSeq (sEx (mCall (spneed_term c) (maCons (mVar 0) (maCons (mVar 1) maNil))))
  (sRt (mOp dIx (mFld c.Bank 1 (mVar 0)) (mVar 1))))

/-- Bank.node -/
def wBank_node (c : Cl) : MS :=
  (sSeq (sEx (mCall (spneed_term c) (maCons (mVar 0) (maCons (mVar 1) maNil))))
  (sRt (mOp dIx (mFld c.Bank 0 (mVar 0)) (mVar 1))))

/-- Bank.names -/
def wBank_names (c : Cl) : MS :=
  (sRt (mLockE (mLc (miKF (mFld c.Bank 3 (mVar 0))) (.nm 1) mYes (mTup (maCons (mVar 1) (maCons (mOp dIx (mFld c.Bank 1 (mVar 0)) (mOp dIxF (mFld c.Bank 3 (mVar 0)) (mVar 1))) maNil))) [1])))

/-- _law_spring -/
def w_law_spring (c : Cl) : MS :=
  (sSeq (sAs (mC (.int 0)) (gNm 1))
  (sSeq (sAs (mC (.int 88651)) (gNm 2))
  (sSeq (sFor (miSeq (mSlA (mVar 0) moNone (moSome (mC (.int 63))))) (gNm 3)
  (sSeq (sIf (mTest (mOp dGe (mCa dAbs (maCons (mVar 3) maNil)) (mOp dPow (mC (.int 10)) (mC (.int 18)))))
  (sAs (mOp dAddA (mOp dMulA (mVar 1) (mOp dPow (mC (.int 10)) (mC (.int 60)))) (mOp dMod (mCa dAbs (maCons (mVar 3) maNil)) (mOp dPow (mC (.int 10)) (mC (.int 60))))) (gNm 1))
  sNx)
  (sAs (mOp dMod (mOp dAddA (mOp dAddA (mOp dMulA (mVar 2) (mC (.int 69069))) (mOp dMod (mVar 3) (mC (.int 2305843009213693921)))) (mC (.int 7))) (mC (.int 2305843009213693951))) (gNm 2))))
  (sRt (mLstH (maCons (mVar 1) (maCons (mVar 2) (maCons (mC (.int 0)) maNil))))))))

/-- _law_draw -/
def w_law_draw (c : Cl) : MS :=
  (sSeq (sIf (mTest (mOp dGt (mOp dIx (mVar 0) (mC (.int 0))) (mC (.int 0))))
  (sSeq (sAs (mOp dMod (mOp dIx (mVar 0) (mC (.int 0))) (mVar 1)) (gNm 3))
  (sSeq (sAs (mOp dDiv (mOp dIx (mVar 0) (mC (.int 0))) (mVar 1)) (gSb (mVar 0) (mC (.int 0))))
  (sRt (mVar 3))))
  sNx)
  (sSeq (sAs (mOp dAddA (mOp dIx (mVar 0) (mC (.int 2))) (mC (.int 1))) (gSb (mVar 0) (mC (.int 2))))
  (sSeq (sAs (mOp dMod (mOp dMulA (mOp dIx (mVar 0) (mC (.int 1))) (mOp dIx (mVar 0) (mC (.int 1)))) (mC (.int 2305843009213693951))) (gNm 2))
  (sSeq (sAs (mOp dMod (mOp dAddA (mOp dAddA (mVar 2) (mOp dMulA (mOp dMulA (mC (.int 7919)) (mOp dIx (mVar 0) (mC (.int 2)))) (mOp dIx (mVar 0) (mC (.int 1))))) (mC (.int 104729))) (mC (.int 2305843009213693951))) (gSb (mVar 0) (mC (.int 1))))
  (sRt (mOp dMod (mOp dDiv (mOp dIx (mVar 0) (mC (.int 1))) (mC (.int 65537))) (mVar 1)))))))

/-- _law_words -/
def w_law_words (c : Cl) : MS :=
  (sSeq (sAs (mLstH maNil) (gNm 2))
  (sSeq (sFor (miR1 (maCons (mVar 1) maNil)) (gNm 3)
  (sSeq (sAs (mOp dIx (mLst (maCons (mC (.int 0)) (maCons (mC (.int 0)) (maCons (mC (.int 1)) (maCons (mC (.int 7)) (maCons (mC (.int 3)) (maCons (mC (.int 2)) maNil))))))) (mCall (sp_law_draw c) (maCons (mVar 0) (maCons (mC (.int 6)) maNil)))) (gNm 4))
  (sSeq (sAs (mJoin (mC (.str "")) (mLc (miR1 (maCons (mVar 4) maNil)) (.nm 6) mYes (mOp dIx (mC (.str "abcdefghijklmnopyz")) (mCall (sp_law_draw c) (maCons (mVar 0) (maCons (mC (.int 18)) maNil)))) [6])) (gNm 5))
  (sSeq (sAs (mCall (sp_law_draw c) (maCons (mVar 0) (maCons (mOp dAddA (mVar 4) (mC (.int 1))) maNil))) (gNm 6))
  (sSeq (sAs (mOp dIx (mC (.str "qrstuvwx")) (mVar 3)) (gNm 7))
  (sSeq (sAs (mOp dAddA (mOp dAddA (mSlA (mVar 5) moNone (moSome (mVar 6))) (mVar 7)) (mSlA (mVar 5) (moSome (mVar 6)) moNone)) (gNm 8))
  (sSeq (sIf (mTest (mOp (dIN false) (mVar 8) (mLst (maCons (mC (.str "false")) (maCons (mC (.str "not")) (maCons (mC (.str "or")) (maCons (mC (.str "same")) (maCons (mC (.str "choose")) (maCons (mC (.str "bor")) (maCons (mC (.str "div")) (maCons (mC (.str "shl")) (maCons (mC (.str "read")) (maCons (mC (.str "mul")) maNil)))))))))))))
  (sAs (mOp dAddA (mVar 8) (mVar 7)) (gNm 8))
  sNx)
  (sEx (mMe dApp (mVar 2) (maCons (mVar 8) maNil))))))))))
  (sRt (mVar 2))))

/-- _law_signs -/
def w_law_signs (c : Cl) : MS :=
  (sSeq (sAs (mLst maNil) (gNm 2))
  (sSeq (sFor (miR1 (maCons (mVar 1) maNil)) (gNm 3)
  (sAs (mOp dAddA (mLst (maCons (mOp dMod (mOp dDiv (mVar 0) (mOp dShl (mC (.int 1)) (mVar 3))) (mC (.int 2))) maNil)) (mVar 2)) (gNm 2)))
  (sRt (mVar 2))))

/-- _law_number -/
def w_law_number (c : Cl) : MS :=
  (sSeq (sAs (mC (.int 0)) (gNm 1))
  (sSeq (sFor (miSeq (mVar 0)) (gNm 2)
  (sAs (mOp dAddA (mOp dMulA (mC (.int 2)) (mVar 1)) (mVar 2)) (gNm 1)))
  (sRt (mVar 1))))

/-- _law_whole -/
def w_law_whole (c : Cl) : MS :=
  (sRt (mAndV (mCa dIsi (maCons (mVar 0) (maCons (mC (.raw (.ty "int"))) maNil))) (mAndV (mNotV (mCa dIsi (maCons (mVar 0) (maCons (mC (.raw (.ty "bool"))) maNil)))) (mOp (dEQ false) (mVar 0) (mVar 1)))))

/-- all_under -/
def wall_under (c : Cl) : MS :=
  (sSeq (sAs mDic (gNm 2))
  (sSeq (sAs (mCa dListH (maCons (mVar 1) maNil)) (gNm 3))
  (sSeq (sWh (mTest (mOp (dEQ true) (mVar 3) (mLst maNil)))
  (sSeq (sAs (mMe0 dPop0 (mVar 3)) (gNm 4))
  (sIf (mTest (mOp (dIN true) (mVar 4) (mVar 2)))
  (sSeq (sAs (mC (.bl true)) (gSb (mVar 2) (mVar 4)))
  (sEx (mMe dExtA (mVar 3) (maCons (mOp dIx (mMeth c.Bank (spBank_node c) (mVar 0) (maCons (mVar 4) maNil)) (mC (.int 1))) maNil))))
  sNx)))
  (sRt (mCa dSortK (maCons (mVar 2) maNil))))))

/-- need_model -/
def wneed_model (c : Cl) : MS :=
  (sSeq (sAs (mCa dDictA (maCons (mMeth0 c.Bank (spBank_names c) (mVar 0)) maNil)) (gNm 2))
  (sSeq (sAs (mC (.str "")) (gNm 3))
  (sFor (miSeq (mVar 1)) (gTp 2 (gsCons (gNm 4) (gsCons (gNm 5) gsNil)))
  (sSeq (sIf (mOr (mTest (mOp (dIN true) (mVar 4) (mVar 2))) (mOr (mTest (mOp dLE (mVar 4) (mVar 3))) (mNot (mTest (mCall (spis_worth c) (maCons (mVar 5) (maCons (mOp dIx (mVar 2) (mVar 4)) maNil)))))))
  sNever
  sNx)
  (sAs (mVar 4) (gNm 3))))))

/-- worths_under -/
def wworths_under (c : Cl) : MS :=
  (sSeq (sAs (mCa dDictA (maCons (mVar 2) maNil)) (gNm 3))
  (sSeq (sAs mDic (gNm 4))
  (sSeq (sFor (miSeq (mCall (spall_under c) (maCons (mVar 0) (maCons (mVar 1) maNil)))) (gNm 5)
  (sSeq (sAs (mMeth c.Bank (spBank_node c) (mVar 0) (maCons (mVar 5) maNil)) (gTp 3 (gsCons (gNm 6) (gsCons (gNm 7) (gsCons (gNm 8) gsNil)))))
  (sIf (mTest (mOp (dEQ false) (mVar 6) (mC (.str "name"))))
  (sSeq (sAs (mGet2 (mVar 3) (mOp dIx (mVar 8) (mC (.int 0))) (mCall (spplain_worth c) (maCons (mOp dIx (mVar 8) (mC (.int 1))) maNil))) (gNm 9))
  (sAs (mIf (mTest (mCa dIsi (maCons (mVar 9) (maCons (mC (.raw (.ty "list"))) maNil)))) (mCa dTuple (maCons (mVar 9) maNil)) (mVar 9)) (gSb (mVar 4) (mVar 5))))
  (sAs (mCall (spworth_by c) (maCons (mVar 6) (maCons (mVar 8) (maCons (mLc (miSeq (mVar 7)) (.nm 10) mYes (mMeth c.Bank (spBank_kind c) (mVar 0) (maCons (mVar 10) maNil)) [10]) (maCons (mLc (miSeq (mVar 7)) (.nm 10) mYes (mOp dIx (mVar 4) (mVar 10)) [10]) maNil))))) (gSb (mVar 4) (mVar 5))))))
  (sRt (mVar 4)))))

/-- worth_of -/
def wworth_of (c : Cl) : MS :=
  (sSeq (sEx (mMeth c.Bank (spBank_kind c) (mVar 0) (maCons (mVar 1) maNil)))
  (sSeq (sEx (mCall (spneed_model c) (maCons (mVar 0) (maCons (mVar 2) maNil))))
  (sRt (mOp dIx (mCall (spworths_under c) (maCons (mVar 0) (maCons (mLst (maCons (mVar 1) maNil)) (maCons (mVar 2) maNil)))) (mVar 1)))))

/-- _law_cuts -/
def w_law_cuts (c : Cl) : MS :=
  (sSeq (sAs (mCa dLen (maCons (mVar 2) maNil)) (gNm 4))
  (sSeq (sFor (miR1 (maCons (mVar 4) maNil)) (gNm 5)
  (sFor (miR2 (maCons (mVar 5) (maCons (mVar 4) maNil))) (gNm 7)
  (sSeq (sAs (mMethG c.Bank 3 1 [] [] (spBank_make c) (mVar 0) (maCons (mC (.str "cut")) (maCons (mTup (maCons (mVar 1) maNil)) maNil)) (maCons (mTup (maCons (mVar 7) (maCons (mVar 5) maNil))) maNil)) (gNm 8))
  (sSeq (sAs (mCall (sp_law_number c) (maCons (mSlA (mVar 2) (moSome (mOp dSub (mOp dSub (mVar 4) (mC (.int 1))) (mVar 7))) (moSome (mOp dSub (mVar 4) (mVar 5)))) maNil)) (gNm 9))
  (sIf (mOr (mTest (mOp (dEQ true) (mMeth c.Bank (spBank_kind c) (mVar 0) (maCons (mVar 8) maNil)) (mTup (maCons (mC (.str "word")) (maCons (mOp dAddA (mOp dSub (mVar 7) (mVar 5)) (mC (.int 1))) maNil))))) (mNot (mTest (mCall (sp_law_whole c) (maCons (mCall (spworth_of c) (maCons (mVar 0) (maCons (mVar 8) (maCons (mVar 3) maNil)))) (maCons (mVar 9) maNil))))))
  (sRt (mC (.bl false)))
  sNx)))))
  (sSeq (sAs (mMethG c.Bank 3 0 [] [(.tup [])] (spBank_make c) (mVar 0) (maCons (mC (.str "flip")) (maCons (mTup (maCons (mVar 1) maNil)) maNil)) maNil) (gNm 6))
  (sRt (mCall (sp_law_whole c) (maCons (mCall (spworth_of c) (maCons (mVar 0) (maCons (mVar 6) (maCons (mVar 3) maNil)))) (maCons (mCall (sp_law_number c) (maCons (mLc (miSeq (mVar 2)) (.nm 10) mYes (mOp dSub (mC (.int 1)) (mVar 10)) [10]) maNil)) maNil)))))))

/-- _law_chosen -/
def w_law_chosen (c : Cl) : MS :=
  (sSeq (sAs (mMethG c.Bank 3 0 [] [(.tup [])] (spBank_make c) (mVar 0) (maCons (mC (.str "same")) (maCons (mTup (maCons (mVar 1) (maCons (mVar 2) maNil))) maNil)) maNil) (gNm 5))
  (sSeq (sAs (mCall (spworth_of c) (maCons (mVar 0) (maCons (mVar 5) (maCons (mVar 4) maNil)))) (gNm 6))
  (sSeq (sIf (mOr (mNot (mTest (mCa dIsi (maCons (mVar 6) (maCons (mC (.raw (.ty "bool"))) maNil))))) (mTest (mOp (dEQ true) (mVar 6) (mOp (dEQ false) (mOp dIx (mVar 3) (mC (.int 0))) (mOp dIx (mVar 3) (mC (.int 1)))))))
  (sRt (mC (.bl false)))
  sNx)
  (sSeq (sAs (mMethG c.Bank 3 0 [] [(.tup [])] (spBank_make c) (mVar 0) (maCons (mC (.str "choose")) (maCons (mTup (maCons (mVar 5) (maCons (mVar 1) (maCons (mVar 2) maNil)))) maNil)) maNil) (gNm 7))
  (sSeq (sAs (mMethG c.Bank 3 0 [] [(.tup [])] (spBank_make c) (mVar 0) (maCons (mC (.str "choose")) (maCons (mTup (maCons (mMethG c.Bank 3 0 [] [(.tup [])] (spBank_make c) (mVar 0) (maCons (mC (.str "not")) (maCons (mTup (maCons (mVar 5) maNil)) maNil)) maNil) (maCons (mVar 1) (maCons (mVar 2) maNil)))) maNil)) maNil) (gNm 8))
  (sRt (mAndV (mCall (sp_law_whole c) (maCons (mCall (spworth_of c) (maCons (mVar 0) (maCons (mVar 7) (maCons (mVar 4) maNil)))) (maCons (mOp dIx (mVar 3) (mC (.int 1))) maNil))) (mCall (sp_law_whole c) (maCons (mCall (spworth_of c) (maCons (mVar 0) (maCons (mVar 8) (maCons (mVar 4) maNil)))) (maCons (mOp dIx (mVar 3) (mC (.int 0))) maNil))))))))))

/-- law -/
def wlaw (c : Cl) : MS :=
  (sSeq (sAs (mCall (sp_law_spring c) (maCons (mVar 0) maNil)) (gNm 1))
  (sSeq (sFor (miR1 (maCons (mOp dAddA (mC (.int 1)) (mCa dMin2 (maCons (mCa dLen (maCons (mVar 0) maNil)) (maCons (mC (.int 10)) maNil)))) maNil)) (gNm 2)
  (sSeq (sAs (mOp dAddA (mC (.int 1)) (mCall (sp_law_draw c) (maCons (mVar 1) (maCons (mC (.int 7)) maNil)))) (gNm 3))
  (sSeq (sAs (mOp dAddA (mC (.int 1)) (mCall (sp_law_draw c) (maCons (mVar 1) (maCons (mOp dSub (mC (.int 8)) (mVar 3)) maNil)))) (gNm 4))
  (sSeq (sAs (mLst (maCons (mCall (sp_law_draw c) (maCons (mVar 1) (maCons (mOp dShl (mC (.int 1)) (mVar 3)) maNil))) (maCons (mCall (sp_law_draw c) (maCons (mVar 1) (maCons (mOp dShl (mC (.int 1)) (mVar 4)) maNil))) (maCons (mCall (sp_law_draw c) (maCons (mVar 1) (maCons (mOp dShl (mC (.int 1)) (mVar 3)) maNil))) maNil)))) (gNm 5))
  (sSeq (sAs (mCall (sp_law_words c) (maCons (mVar 1) (maCons (mC (.int 3)) maNil))) (gNm 6))
  (sSeq (sAs (mLst (maCons (mTup (maCons (mC (.str "word")) (maCons (mVar 3) maNil))) (maCons (mTup (maCons (mC (.str "word")) (maCons (mVar 4) maNil))) (maCons (mTup (maCons (mC (.str "word")) (maCons (mVar 3) maNil))) maNil)))) (gNm 7))
  (sSeq (sAs (mMake c.Bank (spBank_DinitD c) maNil) (gNm 8))
  (sSeq (sAs (mCa dSortP (maCons (mLc (miZipA (maCons (mVar 6) (maCons (mVar 5) maNil))) (.nm 13) mYes (mVar 13) [13]) maNil)) (gNm 9))
  (sSeq (sAs (mLcH (miZipA (maCons (mVar 6) (maCons (mVar 7) maNil))) (.tp [(.nm 14), (.nm 15)]) mYes (mMeth c.Bank (spBank_name c) (mVar 8) (maCons (mVar 14) (maCons (mVar 15) maNil))) [14, 15]) (gNm 10))
  (sSeq (sIf (mTest (mOp (dEQ false) (mCall (sp_law_draw c) (maCons (mVar 1) (maCons (mC (.int 3)) maNil))) (mC (.int 2))))
  (sAs (mMethG c.Bank 2 1 [(.tup [])] [] (spBank_make c) (mVar 8) (maCons (mC (.str "number")) maNil) (maCons (mTup (maCons (mVar 4) (maCons (mOp dIx (mVar 5) (mC (.int 1))) maNil))) maNil)) (gSb (mVar 10) (mC (.int 1))))
  sNx)
  (sSeq (sAs (mMethG c.Bank 3 0 [] [(.tup [])] (spBank_make c) (mVar 8) (maCons (mC (.str "join")) (maCons (mTup (maCons (mOp dIx (mVar 10) (mC (.int 0))) (maCons (mOp dIx (mVar 10) (mC (.int 1))) maNil))) maNil)) maNil) (gNm 11))
  (sSeq (sAs (mLst (maCons (mCall (sp_law_signs c) (maCons (mOp dIx (mVar 5) (mC (.int 0))) (maCons (mVar 3) maNil))) (maCons (mCall (sp_law_signs c) (maCons (mOp dIx (mVar 5) (mC (.int 1))) (maCons (mVar 4) maNil))) maNil))) (gNm 12))
  (sSeq (sIf (mOr (mNot (mTest (mCall (sp_law_cuts c) (maCons (mVar 8) (maCons (mOp dIx (mVar 10) (mC (.int 0))) (maCons (mOp dIx (mVar 12) (mC (.int 0))) (maCons (mVar 9) maNil))))))) (mNot (mTest (mCall (sp_law_cuts c) (maCons (mVar 8) (maCons (mOp dIx (mVar 10) (mC (.int 1))) (maCons (mOp dIx (mVar 12) (mC (.int 1))) (maCons (mVar 9) maNil))))))))
  (sRt (mC (.bl false)))
  sNx)
  (sSeq (sIf (mNot (mTest (mCall (sp_law_cuts c) (maCons (mVar 8) (maCons (mVar 11) (maCons (mOp dAddA (mOp dIx (mVar 12) (mC (.int 0))) (mOp dIx (mVar 12) (mC (.int 1)))) (maCons (mVar 9) maNil)))))))
  (sRt (mC (.bl false)))
  sNx)
  (sIf (mNot (mTest (mCall (sp_law_chosen c) (maCons (mVar 8) (maCons (mOp dIx (mVar 10) (mC (.int 0))) (maCons (mOp dIx (mVar 10) (mC (.int 2))) (maCons (mLst (maCons (mOp dIx (mVar 5) (mC (.int 0))) (maCons (mOp dIx (mVar 5) (mC (.int 2))) maNil))) (maCons (mVar 9) maNil))))))))
  (sRt (mC (.bl false)))
  sNx)))))))))))))))
  (sRt (mC (.bl true)))))

abbrev NBank : List Str := ["made", "sorts", "placed", "called"]
structure ClD (G : Gm) (mg : Str → Option Value) (c : Cl) : Prop where
  Bank : ClsD G c.Bank NBank
  g_TRUTH_meaning : GlD G mg "TRUTH_meaning" (.tup [(.str "truth")])
  g_TRUTH_bank : GlD G mg "TRUTH_bank" (.tup [(.str "truth")])
  g_MOST_BITS : GlD G mg "MOST_BITS" (.int 8)
  g_MOST_PLACES : GlD G mg "MOST_PLACES" (.int 3)
  g_MOST_LETTERS : GlD G mg "MOST_LETTERS" (.int 8)
  g_LETTERS : GlD G mg "LETTERS" (.str "abcdefghijklmnopqrstuvwxyz")
  g_PAIRS : GlD G mg "PAIRS" (.raw (.ref c.t_PAIRS))
  t_PAIRS : TabD G c.t_PAIRS (tbPAIRS c)
  g_RULES : GlD G mg "RULES" (.raw (.ref c.t_RULES))
  t_RULES : TabD G c.t_RULES (tbRULES c)
def topS (i : Nat) : Stmt := PySem.Challenge.pw_pushproof_k19_cut_joined_chosen.main.body.getD i (.Pass ⟨0, 0, 0, 0⟩)

structure Bl (mg : Str → Option Value) : Prop where
  b_abs : mg "abs" = none
  b_all : mg "all" = none
  b_bool : mg "bool" = none
  b_dict : mg "dict" = none
  b_int : mg "int" = none
  b_isinstance : mg "isinstance" = none
  b_len : mg "len" = none
  b_list : mg "list" = none
  b_min : mg "min" = none
  b_range : mg "range" = none
  b_sorted : mg "sorted" = none
  b_str : mg "str" = none
  b_tuple : mg "tuple" = none
  b_zip : mg "zip" = none

abbrev sttwo_to : Stmt := topS 11
theorem sctwo_to : FnScope ["bits"] ["bits"] (defScope sttwo_to) := ⟨rfl, rfl, rfl, by decide +kernel, rfl, by decide +kernel, by decide +kernel⟩
set_option maxHeartbeats 4000000 in
theorem detwo_to {P : Program} {w : World} {G : Gm} {mg : Str → Option Value} {base : Heap} {c : Cl} (hW : G.w = w) (B : Bl mg) (T : ClD G mg c)  {f : Addr} (cdv : Value) (A : Around) (outer : List Env) (s : Shared) (H : Hp) (E : XK) (hr : Room 0 (A.deeper (envOfC "two_to" (defScope sttwo_to) s.heap.objs.size f cdv)))  :
    PDSs G E (cxOf CX0 P w G.K mg base ["bits"] "two_to" (defScope sttwo_to) f cdv A outer s H E).nox (defBody sttwo_to) (wtwo_to c) :=
  (sds_one (sd_ret (pd_op op_shl od_shl pd_int (pd_var 0))))
abbrev stas_signed : Stmt := topS 13
theorem scas_signed : FnScope ["width", "number"] ["width", "number"] (defScope stas_signed) := ⟨rfl, rfl, rfl, by decide +kernel, rfl, by decide +kernel, by decide +kernel⟩
set_option maxHeartbeats 4000000 in
theorem deas_signed {P : Program} {w : World} {G : Gm} {mg : Str → Option Value} {base : Heap} {c : Cl} (hW : G.w = w) (B : Bl mg) (T : ClD G mg c) (Ftwo_to : Cal P w G mg base 1 "two_to" (sptwo_to c)) {f : Addr} (cdv : Value) (A : Around) (outer : List Env) (s : Shared) (H : Hp) (E : XK) (hr : Room 1 (A.deeper (envOfC "as_signed" (defScope stas_signed) s.heap.objs.size f cdv)))  :
    PDSs G E (cxOf CX0 P w G.K mg base ["width", "number"] "as_signed" (defScope stas_signed) f cdv A outer s H E).nox (defBody stas_signed) (was_signed c) :=
  (sds_one (sd_ret (pd_if (pt_cmp op_ge od_ge (pd_var 1) (pd_callC Ftwo_to (hr.mono (by decide)) (ma_cons (pd_op op_sub od_sub (pd_var 0) pd_int) ma_nil))) (pd_op op_sub od_sub (pd_var 1) (pd_callC Ftwo_to (hr.mono (by decide)) (ma_cons (pd_var 0) ma_nil))) (pd_var 1))))
abbrev stdiv_of : Stmt := topS 14
theorem scdiv_of : FnScope ["width", "one", "other"] ["width", "one", "other"] (defScope stdiv_of) := ⟨rfl, rfl, rfl, by decide +kernel, rfl, by decide +kernel, by decide +kernel⟩
set_option maxHeartbeats 4000000 in
theorem dediv_of {P : Program} {w : World} {G : Gm} {mg : Str → Option Value} {base : Heap} {c : Cl} (hW : G.w = w) (B : Bl mg) (T : ClD G mg c) (Ftwo_to : Cal P w G mg base 1 "two_to" (sptwo_to c)) {f : Addr} (cdv : Value) (A : Around) (outer : List Env) (s : Shared) (H : Hp) (E : XK) (hr : Room 1 (A.deeper (envOfC "div_of" (defScope stdiv_of) s.heap.objs.size f cdv)))  :
    PDSs G E (cxOf CX0 P w G.K mg base ["width", "one", "other"] "div_of" (defScope stdiv_of) f cdv A outer s H E).nox (defBody stdiv_of) (wdiv_of c) :=
  (sds_one (sd_ret (pd_if (pt_eq hr.units (pd_var 2) pd_int) (pd_op op_sub od_sub (pd_callC Ftwo_to (hr.mono (by decide)) (ma_cons (pd_var 0) ma_nil)) pd_int) (pd_op op_fdivW od_div (pd_var 1) (pd_var 2)))))
abbrev strest_of : Stmt := topS 15
theorem screst_of : FnScope ["width", "one", "other"] ["width", "one", "other"] (defScope strest_of) := ⟨rfl, rfl, rfl, by decide +kernel, rfl, by decide +kernel, by decide +kernel⟩
set_option maxHeartbeats 4000000 in
theorem derest_of {P : Program} {w : World} {G : Gm} {mg : Str → Option Value} {base : Heap} {c : Cl} (hW : G.w = w) (B : Bl mg) (T : ClD G mg c)  {f : Addr} (cdv : Value) (A : Around) (outer : List Env) (s : Shared) (H : Hp) (E : XK) (hr : Room 0 (A.deeper (envOfC "rest_of" (defScope strest_of) s.heap.objs.size f cdv)))  :
    PDSs G E (cxOf CX0 P w G.K mg base ["width", "one", "other"] "rest_of" (defScope strest_of) f cdv A outer s H E).nox (defBody strest_of) (wrest_of c) :=
  (sds_one (sd_ret (pd_if (pt_eq hr.units (pd_var 2) pd_int) (pd_var 1) (pd_op op_mod od_mod (pd_var 1) (pd_var 2)))))
abbrev stshl_of : Stmt := topS 16
theorem scshl_of : FnScope ["width", "one", "other"] ["width", "one", "other"] (defScope stshl_of) := ⟨rfl, rfl, rfl, by decide +kernel, rfl, by decide +kernel, by decide +kernel⟩
set_option maxHeartbeats 4000000 in
theorem deshl_of {P : Program} {w : World} {G : Gm} {mg : Str → Option Value} {base : Heap} {c : Cl} (hW : G.w = w) (B : Bl mg) (T : ClD G mg c) (Ftwo_to : Cal P w G mg base 1 "two_to" (sptwo_to c)) {f : Addr} (cdv : Value) (A : Around) (outer : List Env) (s : Shared) (H : Hp) (E : XK) (hr : Room 1 (A.deeper (envOfC "shl_of" (defScope stshl_of) s.heap.objs.size f cdv)))  :
    PDSs G E (cxOf CX0 P w G.K mg base ["width", "one", "other"] "shl_of" (defScope stshl_of) f cdv A outer s H E).nox (defBody stshl_of) (wshl_of c) :=
  (sds_one (sd_ret (pd_op op_mod od_mod (pd_op op_shl od_shl (pd_var 1) (pd_var 2)) (pd_callC Ftwo_to (hr.mono (by decide)) (ma_cons (pd_var 0) ma_nil)))))
abbrev stsar_of : Stmt := topS 17
theorem scsar_of : FnScope ["width", "one", "other"] ["width", "one", "other"] (defScope stsar_of) := ⟨rfl, rfl, rfl, by decide +kernel, rfl, by decide +kernel, by decide +kernel⟩
set_option maxHeartbeats 4000000 in
theorem desar_of {P : Program} {w : World} {G : Gm} {mg : Str → Option Value} {base : Heap} {c : Cl} (hW : G.w = w) (B : Bl mg) (T : ClD G mg c) (Fas_signed : Cal P w G mg base 2 "as_signed" (spas_signed c)) (Ftwo_to : Cal P w G mg base 1 "two_to" (sptwo_to c)) {f : Addr} (cdv : Value) (A : Around) (outer : List Env) (s : Shared) (H : Hp) (E : XK) (hr : Room 2 (A.deeper (envOfC "sar_of" (defScope stsar_of) s.heap.objs.size f cdv)))  :
    PDSs G E (cxOf CX0 P w G.K mg base ["width", "one", "other"] "sar_of" (defScope stsar_of) f cdv A outer s H E).nox (defBody stsar_of) (wsar_of c) :=
  (sds_one (sd_ret (pd_op op_mod od_mod (pd_op op_shr od_shr (pd_callC Fas_signed (hr.mono (by decide)) (ma_cons (pd_var 0) (ma_cons (pd_var 1) ma_nil))) (pd_var 2)) (pd_callC Ftwo_to (hr.mono (by decide)) (ma_cons (pd_var 0) ma_nil)))))
abbrev stshr_of : Stmt := topS 18
theorem scshr_of : FnScope ["width", "one", "other"] ["width", "one", "other"] (defScope stshr_of) := ⟨rfl, rfl, rfl, by decide +kernel, rfl, by decide +kernel, by decide +kernel⟩
set_option maxHeartbeats 4000000 in
theorem deshr_of {P : Program} {w : World} {G : Gm} {mg : Str → Option Value} {base : Heap} {c : Cl} (hW : G.w = w) (B : Bl mg) (T : ClD G mg c)  {f : Addr} (cdv : Value) (A : Around) (outer : List Env) (s : Shared) (H : Hp) (E : XK) (hr : Room 0 (A.deeper (envOfC "shr_of" (defScope stshr_of) s.heap.objs.size f cdv)))  :
    PDSs G E (cxOf CX0 P w G.K mg base ["width", "one", "other"] "shr_of" (defScope stshr_of) f cdv A outer s H E).nox (defBody stshr_of) (wshr_of c) :=
  (sds_one (sd_ret (pd_op op_shr od_shr (pd_var 1) (pd_var 2))))
abbrev stband_of : Stmt := topS 19
theorem scband_of : FnScope ["width", "one", "other"] ["width", "one", "other"] (defScope stband_of) := ⟨rfl, rfl, rfl, by decide +kernel, rfl, by decide +kernel, by decide +kernel⟩
set_option maxHeartbeats 4000000 in
theorem deband_of {P : Program} {w : World} {G : Gm} {mg : Str → Option Value} {base : Heap} {c : Cl} (hW : G.w = w) (B : Bl mg) (T : ClD G mg c)  {f : Addr} (cdv : Value) (A : Around) (outer : List Env) (s : Shared) (H : Hp) (E : XK) (hr : Room 0 (A.deeper (envOfC "band_of" (defScope stband_of) s.heap.objs.size f cdv)))  :
    PDSs G E (cxOf CX0 P w G.K mg base ["width", "one", "other"] "band_of" (defScope stband_of) f cdv A outer s H E).nox (defBody stband_of) (wband_of c) :=
  (sds_one (sd_ret (pd_op op_and od_band (pd_var 1) (pd_var 2))))
abbrev stbor_of : Stmt := topS 20
theorem scbor_of : FnScope ["width", "one", "other"] ["width", "one", "other"] (defScope stbor_of) := ⟨rfl, rfl, rfl, by decide +kernel, rfl, by decide +kernel, by decide +kernel⟩
set_option maxHeartbeats 4000000 in
theorem debor_of {P : Program} {w : World} {G : Gm} {mg : Str → Option Value} {base : Heap} {c : Cl} (hW : G.w = w) (B : Bl mg) (T : ClD G mg c)  {f : Addr} (cdv : Value) (A : Around) (outer : List Env) (s : Shared) (H : Hp) (E : XK) (hr : Room 0 (A.deeper (envOfC "bor_of" (defScope stbor_of) s.heap.objs.size f cdv)))  :
    PDSs G E (cxOf CX0 P w G.K mg base ["width", "one", "other"] "bor_of" (defScope stbor_of) f cdv A outer s H E).nox (defBody stbor_of) (wbor_of c) :=
  (sds_one (sd_ret (pd_op op_or od_bor (pd_var 1) (pd_var 2))))
abbrev stbxor_of : Stmt := topS 21
theorem scbxor_of : FnScope ["width", "one", "other"] ["width", "one", "other"] (defScope stbxor_of) := ⟨rfl, rfl, rfl, by decide +kernel, rfl, by decide +kernel, by decide +kernel⟩
set_option maxHeartbeats 4000000 in
theorem debxor_of {P : Program} {w : World} {G : Gm} {mg : Str → Option Value} {base : Heap} {c : Cl} (hW : G.w = w) (B : Bl mg) (T : ClD G mg c)  {f : Addr} (cdv : Value) (A : Around) (outer : List Env) (s : Shared) (H : Hp) (E : XK) (hr : Room 0 (A.deeper (envOfC "bxor_of" (defScope stbxor_of) s.heap.objs.size f cdv)))  :
    PDSs G E (cxOf CX0 P w G.K mg base ["width", "one", "other"] "bxor_of" (defScope stbxor_of) f cdv A outer s H E).nox (defBody stbxor_of) (wbxor_of c) :=
  (sds_one (sd_ret (pd_op op_xor od_bxor (pd_var 1) (pd_var 2))))
abbrev stadd_of : Stmt := topS 22
theorem scadd_of : FnScope ["width", "one", "other"] ["width", "one", "other"] (defScope stadd_of) := ⟨rfl, rfl, rfl, by decide +kernel, rfl, by decide +kernel, by decide +kernel⟩
set_option maxHeartbeats 4000000 in
theorem deadd_of {P : Program} {w : World} {G : Gm} {mg : Str → Option Value} {base : Heap} {c : Cl} (hW : G.w = w) (B : Bl mg) (T : ClD G mg c) (Ftwo_to : Cal P w G mg base 1 "two_to" (sptwo_to c)) {f : Addr} (cdv : Value) (A : Around) (outer : List Env) (s : Shared) (H : Hp) (E : XK) (hr : Room 1 (A.deeper (envOfC "add_of" (defScope stadd_of) s.heap.objs.size f cdv)))  :
    PDSs G E (cxOf CX0 P w G.K mg base ["width", "one", "other"] "add_of" (defScope stadd_of) f cdv A outer s H E).nox (defBody stadd_of) (wadd_of c) :=
  (sds_one (sd_ret (pd_op op_mod od_mod (pd_op op_ADDT (od_addA rfl) (pd_var 1) (pd_var 2)) (pd_callC Ftwo_to (hr.mono (by decide)) (ma_cons (pd_var 0) ma_nil)))))
abbrev stsub_of : Stmt := topS 23
theorem scsub_of : FnScope ["width", "one", "other"] ["width", "one", "other"] (defScope stsub_of) := ⟨rfl, rfl, rfl, by decide +kernel, rfl, by decide +kernel, by decide +kernel⟩
set_option maxHeartbeats 4000000 in
theorem desub_of {P : Program} {w : World} {G : Gm} {mg : Str → Option Value} {base : Heap} {c : Cl} (hW : G.w = w) (B : Bl mg) (T : ClD G mg c) (Ftwo_to : Cal P w G mg base 1 "two_to" (sptwo_to c)) {f : Addr} (cdv : Value) (A : Around) (outer : List Env) (s : Shared) (H : Hp) (E : XK) (hr : Room 1 (A.deeper (envOfC "sub_of" (defScope stsub_of) s.heap.objs.size f cdv)))  :
    PDSs G E (cxOf CX0 P w G.K mg base ["width", "one", "other"] "sub_of" (defScope stsub_of) f cdv A outer s H E).nox (defBody stsub_of) (wsub_of c) :=
  (sds_one (sd_ret (pd_op op_mod od_mod (pd_op op_sub od_sub (pd_var 1) (pd_var 2)) (pd_callC Ftwo_to (hr.mono (by decide)) (ma_cons (pd_var 0) ma_nil)))))
abbrev stmul_of : Stmt := topS 24
theorem scmul_of : FnScope ["width", "one", "other"] ["width", "one", "other"] (defScope stmul_of) := ⟨rfl, rfl, rfl, by decide +kernel, rfl, by decide +kernel, by decide +kernel⟩
set_option maxHeartbeats 4000000 in
theorem demul_of {P : Program} {w : World} {G : Gm} {mg : Str → Option Value} {base : Heap} {c : Cl} (hW : G.w = w) (B : Bl mg) (T : ClD G mg c) (Ftwo_to : Cal P w G mg base 1 "two_to" (sptwo_to c)) {f : Addr} (cdv : Value) (A : Around) (outer : List Env) (s : Shared) (H : Hp) (E : XK) (hr : Room 1 (A.deeper (envOfC "mul_of" (defScope stmul_of) s.heap.objs.size f cdv)))  :
    PDSs G E (cxOf CX0 P w G.K mg base ["width", "one", "other"] "mul_of" (defScope stmul_of) f cdv A outer s H E).nox (defBody stmul_of) (wmul_of c) :=
  (sds_one (sd_ret (pd_op op_mod od_mod (pd_op op_MULT (od_mulA rfl) (pd_var 1) (pd_var 2)) (pd_callC Ftwo_to (hr.mono (by decide)) (ma_cons (pd_var 0) ma_nil)))))
abbrev stless_of : Stmt := topS 25
theorem scless_of : FnScope ["width", "one", "other"] ["width", "one", "other"] (defScope stless_of) := ⟨rfl, rfl, rfl, by decide +kernel, rfl, by decide +kernel, by decide +kernel⟩
set_option maxHeartbeats 4000000 in
theorem deless_of {P : Program} {w : World} {G : Gm} {mg : Str → Option Value} {base : Heap} {c : Cl} (hW : G.w = w) (B : Bl mg) (T : ClD G mg c)  {f : Addr} (cdv : Value) (A : Around) (outer : List Env) (s : Shared) (H : Hp) (E : XK) (hr : Room 0 (A.deeper (envOfC "less_of" (defScope stless_of) s.heap.objs.size f cdv)))  :
    PDSs G E (cxOf CX0 P w G.K mg base ["width", "one", "other"] "less_of" (defScope stless_of) f cdv A outer s H E).nox (defBody stless_of) (wless_of c) :=
  (sds_one (sd_ret (pd_cmp op_lt od_lt (pd_var 1) (pd_var 2))))
abbrev stsless_of : Stmt := topS 26
theorem scsless_of : FnScope ["width", "one", "other"] ["width", "one", "other"] (defScope stsless_of) := ⟨rfl, rfl, rfl, by decide +kernel, rfl, by decide +kernel, by decide +kernel⟩
set_option maxHeartbeats 4000000 in
theorem desless_of {P : Program} {w : World} {G : Gm} {mg : Str → Option Value} {base : Heap} {c : Cl} (hW : G.w = w) (B : Bl mg) (T : ClD G mg c) (Fas_signed : Cal P w G mg base 2 "as_signed" (spas_signed c)) {f : Addr} (cdv : Value) (A : Around) (outer : List Env) (s : Shared) (H : Hp) (E : XK) (hr : Room 2 (A.deeper (envOfC "sless_of" (defScope stsless_of) s.heap.objs.size f cdv)))  :
    PDSs G E (cxOf CX0 P w G.K mg base ["width", "one", "other"] "sless_of" (defScope stsless_of) f cdv A outer s H E).nox (defBody stsless_of) (wsless_of c) :=
  (sds_one (sd_ret (pd_cmp op_lt od_lt (pd_callC Fas_signed (hr.mono (by decide)) (ma_cons (pd_var 0) (ma_cons (pd_var 1) ma_nil))) (pd_callC Fas_signed (hr.mono (by decide)) (ma_cons (pd_var 0) (ma_cons (pd_var 2) ma_nil))))))
abbrev stmoved_worth : Stmt := topS 28
theorem scmoved_worth : FnScope ["word", "marks", "kinds", "some", "high", "low"] ["word", "marks", "kinds", "some"] (defScope stmoved_worth) := ⟨rfl, rfl, rfl, by decide +kernel, rfl, by decide +kernel, by decide +kernel⟩
set_option maxHeartbeats 4000000 in
theorem demoved_worth {P : Program} {w : World} {G : Gm} {mg : Str → Option Value} {base : Heap} {c : Cl} (hW : G.w = w) (B : Bl mg) (T : ClD G mg c) (Ftwo_to : Cal P w G mg base 1 "two_to" (sptwo_to c)) {f : Addr} (cdv : Value) (A : Around) (outer : List Env) (s : Shared) (H : Hp) (E : XK) (hr : Room 1 (A.deeper (envOfC "moved_worth" (defScope stmoved_worth) s.heap.objs.size f cdv)))  :
    PDSs G E (cxOf CX0 P w G.K mg base ["word", "marks", "kinds", "some", "high", "low"] "moved_worth" (defScope stmoved_worth) f cdv A outer s H E).nox (defBody stmoved_worth) (wmoved_worth c) :=
  (sds_cons (sd_if (pt_eq hr.units (pd_var 0) pd_str)
  (sds_one (sd_ret (pd_op op_ADDT (od_addA rfl) (pd_op op_shl od_shl (pd_ix (hu_of hr) (pd_var 3) pd_int) (pd_ix (hu_of hr) (pd_ix (hu_of hr) (pd_var 2) pd_int) pd_int)) (pd_ix (hu_of hr) (pd_var 3) pd_int))))
  sds_nil)
  (sds_cons (sd_if (pt_eq hr.units (pd_var 0) pd_str)
  (sds_cons (sd_asg (pd_var 1) (gd_tp (gds_cons (gd_nm 4 scmoved_worth.nd) (gds_cons (gd_nm 5 scmoved_worth.nd) gds_nil))))
  (sds_one (sd_ret (pd_op op_mod od_mod (pd_op op_shr od_shr (pd_ix (hu_of hr) (pd_var 3) pd_int) (pd_var 5)) (pd_callC Ftwo_to (hr.mono (by decide)) (ma_cons (pd_op op_ADDT (od_addA rfl) (pd_op op_sub od_sub (pd_var 4) (pd_var 5)) pd_int) ma_nil))))))
  sds_nil)
  (sds_cons (sd_if (pt_eq hr.units (pd_var 0) pd_str)
  (sds_one (sd_ret (pd_ix (hu_of hr) (pd_ix (hu_of hr) (pd_var 3) pd_int) (pd_ix (hu_of hr) (pd_var 3) pd_int))))
  sds_nil)
  (sds_one (sd_ret (pd_op op_ADDT (od_addA rfl) (pd_op op_ADDT (od_addA rfl) (pd_slA (pd_ix (hu_of hr) (pd_var 3) pd_int) mo_none (mo_some (pd_ix (hu_of hr) (pd_var 3) pd_int))) (pd_tup (ma_cons (pd_ix (hu_of hr) (pd_var 3) pd_int) ma_nil))) (pd_slA (pd_ix (hu_of hr) (pd_var 3) pd_int) (mo_some (pd_op op_ADDT (od_addA rfl) (pd_ix (hu_of hr) (pd_var 3) pd_int) pd_int)) mo_none)))))))
abbrev stworth_by : Stmt := topS 29
theorem scworth_by : FnScope ["word", "marks", "kinds", "some", "deed"] ["word", "marks", "kinds", "some"] (defScope stworth_by) := ⟨rfl, rfl, rfl, by decide +kernel, rfl, by decide +kernel, by decide +kernel⟩
set_option maxHeartbeats 4000000 in
theorem deworth_by {P : Program} {w : World} {G : Gm} {mg : Str → Option Value} {base : Heap} {c : Cl} (hW : G.w = w) (B : Bl mg) (T : ClD G mg c) (Ftwo_to : Cal P w G mg base 1 "two_to" (sptwo_to c)) (Fmoved_worth : Cal P w G mg base 2 "moved_worth" (spmoved_worth c)) (APAIRS : ∀ q ∈ cbPAIRS c, CalT P w G mg base 3 q.1 q.2) {f : Addr} (cdv : Value) (A : Around) (outer : List Env) (s : Shared) (H : Hp) (E : XK) (hr : Room 3 (A.deeper (envOfC "worth_by" (defScope stworth_by) s.heap.objs.size f cdv)))  :
    PDSs G E (cxOf CX0 P w G.K mg base ["word", "marks", "kinds", "some", "deed"] "worth_by" (defScope stworth_by) f cdv A outer s H E).nox (defBody stworth_by) (wworth_by c) :=
  (sds_cons (sd_if (pt_eq hr.units (pd_var 0) pd_str)
  (sds_one (sd_ret (pd_ix (hu_of hr) (pd_var 1) pd_int)))
  sds_nil)
  (sds_cons (sd_if (pt_w (pw_or (pt_eq hr.units (pd_var 0) pd_str) (pw_or1 (pt_eq hr.units (pd_var 0) pd_str))))
  (sds_one (sd_ret (pd_eq hr.units (pd_var 0) pd_str)))
  sds_nil)
  (sds_cons (sd_if (pt_eq hr.units (pd_var 0) pd_str)
  (sds_one (sd_ret (pd_not (pd_ix (hu_of hr) (pd_var 3) pd_int))))
  sds_nil)
  (sds_cons (sd_if (pt_eq hr.units (pd_var 0) pd_str)
  (sds_one (sd_ret (pd_and (pd_ix (hu_of hr) (pd_var 3) pd_int) (pd_one (pd_ix (hu_of hr) (pd_var 3) pd_int)))))
  sds_nil)
  (sds_cons (sd_if (pt_eq hr.units (pd_var 0) pd_str)
  (sds_one (sd_ret (pd_or (pd_ix (hu_of hr) (pd_var 3) pd_int) (pd_one (pd_ix (hu_of hr) (pd_var 3) pd_int)))))
  sds_nil)
  (sds_cons (sd_if (pt_eq hr.units (pd_var 0) pd_str)
  (sds_one (sd_ret (pd_eq hr.units (pd_ix (hu_of hr) (pd_var 3) pd_int) (pd_ix (hu_of hr) (pd_var 3) pd_int))))
  sds_nil)
  (sds_cons (sd_if (pt_eq hr.units (pd_var 0) pd_str)
  (sds_one (sd_ret (pd_if (pt_val (pd_ix (hu_of hr) (pd_var 3) pd_int)) (pd_ix (hu_of hr) (pd_var 3) pd_int) (pd_ix (hu_of hr) (pd_var 3) pd_int))))
  sds_nil)
  (sds_cons (sd_if (pt_eq hr.units (pd_var 0) pd_str)
  (sds_one (sd_ret (pd_op op_sub od_sub (pd_op op_sub od_sub (pd_callC Ftwo_to (hr.mono (by decide)) (ma_cons (pd_ix (hu_of hr) (pd_ix (hu_of hr) (pd_var 2) pd_int) pd_int) ma_nil)) pd_int) (pd_ix (hu_of hr) (pd_var 3) pd_int))))
  sds_nil)
  (sds_cons (sd_if (pt_inKD T.t_PAIRS (pd_var 0) (pd_glb T.g_PAIRS))
  (sds_cons (sd_set 4 (pd_ixKD T.t_PAIRS (pd_glb T.g_PAIRS) (pd_var 0)) scworth_by.nd)
  (sds_one (sd_ret (pd_callT (i := 4) APAIRS (hr.mono (by decide)) (fun _ => (ma_cons (pd_ix (hu_of hr) (pd_ix (hu_of hr) (pd_var 2) pd_int) pd_int) (ma_cons (pd_ix (hu_of hr) (pd_var 3) pd_int) (ma_cons (pd_ix (hu_of hr) (pd_var 3) pd_int) ma_nil))))))))
  sds_nil)
  (sds_one (sd_ret (pd_callC Fmoved_worth (hr.mono (by decide)) (ma_cons (pd_var 0) (ma_cons (pd_var 1) (ma_cons (pd_var 2) (ma_cons (pd_var 3) ma_nil))))))))))))))))
abbrev stplain_worth : Stmt := topS 30
theorem scplain_worth : FnScope ["kind"] ["kind"] (defScope stplain_worth) := ⟨rfl, rfl, rfl, by decide +kernel, rfl, by decide +kernel, by decide +kernel⟩
set_option maxHeartbeats 4000000 in
theorem deplain_worth {P : Program} {w : World} {G : Gm} {mg : Str → Option Value} {base : Heap} {c : Cl} (hW : G.w = w) (B : Bl mg) (T : ClD G mg c) (Ftwo_to : Cal P w G mg base 1 "two_to" (sptwo_to c)) {f : Addr} (cdv : Value) (A : Around) (outer : List Env) (s : Shared) (H : Hp) (E : XK) (hr : Room 1 (A.deeper (envOfC "plain_worth" (defScope stplain_worth) s.heap.objs.size f cdv)))  :
    PDSs G E (cxOf CX0 P w G.K mg base ["kind"] "plain_worth" (defScope stplain_worth) f cdv A outer s H E).nox (defBody stplain_worth) (wplain_worth c) :=
  (sds_cons (sd_if (pt_eq hr.units (pd_var 0) (pd_glb T.g_TRUTH_meaning))
  (sds_one (sd_ret pd_bl))
  sds_nil)
  (sds_cons (sd_if (pt_eq hr.units (pd_ix (hu_of hr) (pd_var 0) pd_int) pd_str)
  (sds_one (sd_ret pd_int))
  sds_nil)
  (sds_one (sd_ret (pd_op op_MULT (od_mulA rfl) (pd_tup (ma_cons pd_int ma_nil)) (pd_callC Ftwo_to (hr.mono (by decide)) (ma_cons (pd_ix (hu_of hr) (pd_var 0) pd_int) ma_nil)))))))
abbrev stis_number : Stmt := topS 31
theorem scis_number : FnScope ["thing", "bits"] ["thing", "bits"] (defScope stis_number) := ⟨rfl, rfl, rfl, by decide +kernel, rfl, by decide +kernel, by decide +kernel⟩
set_option maxHeartbeats 4000000 in
theorem deis_number {P : Program} {w : World} {G : Gm} {mg : Str → Option Value} {base : Heap} {c : Cl} (hW : G.w = w) (B : Bl mg) (T : ClD G mg c) (Ftwo_to : Cal P w G mg base 1 "two_to" (sptwo_to c)) {f : Addr} (cdv : Value) (A : Around) (outer : List Env) (s : Shared) (H : Hp) (E : XK) (hr : Room 1 (A.deeper (envOfC "is_number" (defScope stis_number) s.heap.objs.size f cdv)))  :
    PDSs G E (cxOf CX0 P w G.K mg base ["thing", "bits"] "is_number" (defScope stis_number) f cdv A outer s H E).nox (defBody stis_number) (wis_number c) :=
  (sds_one (sd_ret (pd_and (pd_callB call_ISI (cd_isi rfl) B.b_isinstance (by decide +kernel) (ma_cons (pd_var 0) (ma_cons (pd_ty B.b_int (by decide +kernel)) ma_nil))) (pd_and (pd_not (pd_callB call_ISI (cd_isi rfl) B.b_isinstance (by decide +kernel) (ma_cons (pd_var 0) (ma_cons (pd_ty B.b_bool (by decide +kernel)) ma_nil)))) (pd_one (pd_chn op_le od_le op_lt od_lt pd_int (pd_var 0) (pd_callC Ftwo_to (hr.mono (by decide)) (ma_cons (pd_var 1) ma_nil))))))))
abbrev stis_worth : Stmt := topS 32
theorem scis_worth : FnScope ["thing", "kind", "one"] ["thing", "kind"] (defScope stis_worth) := ⟨rfl, rfl, rfl, by decide +kernel, rfl, by decide +kernel, by decide +kernel⟩
set_option maxHeartbeats 4000000 in
theorem deis_worth {P : Program} {w : World} {G : Gm} {mg : Str → Option Value} {base : Heap} {c : Cl} (hW : G.w = w) (B : Bl mg) (T : ClD G mg c) (Fis_number : Cal P w G mg base 2 "is_number" (spis_number c)) (Ftwo_to : Cal P w G mg base 1 "two_to" (sptwo_to c)) {f : Addr} (cdv : Value) (A : Around) (outer : List Env) (s : Shared) (H : Hp) (E : XK) (hr : Room 2 (A.deeper (envOfC "is_worth" (defScope stis_worth) s.heap.objs.size f cdv)))  :
    PDSs G E (cxOf CX0 P w G.K mg base ["thing", "kind", "one"] "is_worth" (defScope stis_worth) f cdv A outer s H E).nox (defBody stis_worth) (wis_worth c) :=
  (sds_cons (sd_if (pt_eq hr.units (pd_var 1) (pd_glb T.g_TRUTH_meaning))
  (sds_one (sd_ret (pd_callB call_ISI (cd_isi rfl) B.b_isinstance (by decide +kernel) (ma_cons (pd_var 0) (ma_cons (pd_ty B.b_bool (by decide +kernel)) ma_nil)))))
  sds_nil)
  (sds_cons (sd_if (pt_eq hr.units (pd_ix (hu_of hr) (pd_var 1) pd_int) pd_str)
  (sds_one (sd_ret (pd_callC Fis_number (hr.mono (by decide)) (ma_cons (pd_var 0) (ma_cons (pd_ix (hu_of hr) (pd_var 1) pd_int) ma_nil)))))
  sds_nil)
  (sds_cons (sd_if (pt_w (pw_or (pt_not (pt_val (pd_callB call_isiQ (cd_isiT rfl) B.b_isinstance (by decide +kernel) (ma_cons (pd_var 0) (ma_cons (pd_tup (ma_cons (pd_ty B.b_tuple (by decide +kernel)) (ma_cons (pd_ty B.b_list (by decide +kernel)) ma_nil))) ma_nil))))) (pw_or1 (pt_ne hr.units (pd_callB call_LEN (cd_len rfl) B.b_len (by decide +kernel) (ma_cons (pd_var 0) ma_nil)) (pd_callC Ftwo_to (hr.mono (by decide)) (ma_cons (pd_ix (hu_of hr) (pd_var 1) pd_int) ma_nil))))))
  (sds_one (sd_ret pd_bl))
  sds_nil)
  (sds_one (sd_ret (pd_callB (cr_all rfl) (cd_all rfl) B.b_all (by decide +kernel) (ma_cons (pd_lc [("one", 2)] (blkOk_by (by kernel_rfl)) scis_worth.nd (mi_seq (pd_var 0)) (fun _ _ _ _ _ => (tg_nm 2 scis_worth.nd)) (fun _ _ _ _ _ => ts_nil) (fun _ _ _ _ _ => (pd_callC Fis_number (hr.mono (by decide)) (ma_cons (pd_var 2) (ma_cons (pd_ix (hu_of hr) (pd_var 1) pd_int) ma_nil))))) ma_nil)))))))
abbrev stis_whole : Stmt := topS 42
theorem scis_whole : FnScope ["thing", "least", "most"] ["thing", "least", "most"] (defScope stis_whole) := ⟨rfl, rfl, rfl, by decide +kernel, rfl, by decide +kernel, by decide +kernel⟩
set_option maxHeartbeats 4000000 in
theorem deis_whole {P : Program} {w : World} {G : Gm} {mg : Str → Option Value} {base : Heap} {c : Cl} (hW : G.w = w) (B : Bl mg) (T : ClD G mg c)  {f : Addr} (cdv : Value) (A : Around) (outer : List Env) (s : Shared) (H : Hp) (E : XK) (hr : Room 0 (A.deeper (envOfC "is_whole" (defScope stis_whole) s.heap.objs.size f cdv)))  :
    PDSs G E (cxOf CX0 P w G.K mg base ["thing", "least", "most"] "is_whole" (defScope stis_whole) f cdv A outer s H E).nox (defBody stis_whole) (wis_whole c) :=
  (sds_one (sd_ret (pd_and (pd_callB call_ISI (cd_isi rfl) B.b_isinstance (by decide +kernel) (ma_cons (pd_var 0) (ma_cons (pd_ty B.b_int (by decide +kernel)) ma_nil))) (pd_and (pd_not (pd_callB call_ISI (cd_isi rfl) B.b_isinstance (by decide +kernel) (ma_cons (pd_var 0) (ma_cons (pd_ty B.b_bool (by decide +kernel)) ma_nil)))) (pd_one (pd_chn op_le od_le op_le od_le (pd_var 1) (pd_var 0) (pd_var 2)))))))
abbrev stas_kind : Stmt := topS 43
theorem scas_kind : FnScope ["thing"] ["thing"] (defScope stas_kind) := ⟨rfl, rfl, rfl, by decide +kernel, rfl, by decide +kernel, by decide +kernel⟩
set_option maxHeartbeats 4000000 in
theorem deas_kind {P : Program} {w : World} {G : Gm} {mg : Str → Option Value} {base : Heap} {c : Cl} (hW : G.w = w) (B : Bl mg) (T : ClD G mg c) (Fis_whole : Cal P w G mg base 1 "is_whole" (spis_whole c)) {f : Addr} (cdv : Value) (A : Around) (outer : List Env) (s : Shared) (H : Hp) (E : XK) (hr : Room 1 (A.deeper (envOfC "as_kind" (defScope stas_kind) s.heap.objs.size f cdv)))  :
    PDSs G E (cxOf CX0 P w G.K mg base ["thing"] "as_kind" (defScope stas_kind) f cdv A outer s H E).nox (defBody stas_kind) (was_kind c) :=
  (sds_cons (sd_if (pt_not (pt_val (pd_callB call_isiQ (cd_isiT rfl) B.b_isinstance (by decide +kernel) (ma_cons (pd_var 0) (ma_cons (pd_tup (ma_cons (pd_ty B.b_tuple (by decide +kernel)) (ma_cons (pd_ty B.b_list (by decide +kernel)) ma_nil))) ma_nil)))))
  (sds_one (sd_ret pd_non))
  sds_nil)
  (sds_cons (sd_if (pt_eq hr.units (pd_callTy call_TUPLE (cd_tuple rfl) B.b_tuple (by decide +kernel) (ma_cons (pd_var 0) ma_nil)) (pd_glb T.g_TRUTH_bank))
  (sds_one (sd_ret (pd_glb T.g_TRUTH_bank)))
  sds_nil)
  (sds_cons (sd_if (pt_w (pw_and (pt_eq hr.units (pd_callB call_LEN (cd_len rfl) B.b_len (by decide +kernel) (ma_cons (pd_var 0) ma_nil)) pd_int) (pw_and (pt_eq hr.units (pd_ix (hu_of hr) (pd_var 0) pd_int) pd_str) (pw_and1 (pt_val (pd_callC Fis_whole (hr.mono (by decide)) (ma_cons (pd_ix (hu_of hr) (pd_var 0) pd_int) (ma_cons pd_int (ma_cons (pd_glb T.g_MOST_BITS) ma_nil)))))))))
  (sds_one (sd_ret (pd_callTy call_TUPLE (cd_tuple rfl) B.b_tuple (by decide +kernel) (ma_cons (pd_var 0) ma_nil))))
  sds_nil)
  (sds_cons (sd_if (pt_w (pw_or (pt_ne hr.units (pd_callB call_LEN (cd_len rfl) B.b_len (by decide +kernel) (ma_cons (pd_var 0) ma_nil)) pd_int) (pw_or (pt_ne hr.units (pd_ix (hu_of hr) (pd_var 0) pd_int) pd_str) (pw_or1 (pt_not (pt_val (pd_callC Fis_whole (hr.mono (by decide)) (ma_cons (pd_ix (hu_of hr) (pd_var 0) pd_int) (ma_cons pd_int (ma_cons (pd_glb T.g_MOST_PLACES) ma_nil))))))))))
  (sds_one (sd_ret pd_non))
  sds_nil)
  (sds_one (sd_ret (pd_if (pt_val (pd_callC Fis_whole (hr.mono (by decide)) (ma_cons (pd_ix (hu_of hr) (pd_var 0) pd_int) (ma_cons pd_int (ma_cons (pd_glb T.g_MOST_BITS) ma_nil))))) (pd_callTy call_TUPLE (cd_tuple rfl) B.b_tuple (by decide +kernel) (ma_cons (pd_var 0) ma_nil)) pd_non)))))))
abbrev stof_nothing : Stmt := topS 44
theorem scof_nothing : FnScope ["kinds", "marks"] ["kinds", "marks"] (defScope stof_nothing) := ⟨rfl, rfl, rfl, by decide +kernel, rfl, by decide +kernel, by decide +kernel⟩
set_option maxHeartbeats 4000000 in
theorem deof_nothing {P : Program} {w : World} {G : Gm} {mg : Str → Option Value} {base : Heap} {c : Cl} (hW : G.w = w) (B : Bl mg) (T : ClD G mg c)  {f : Addr} (cdv : Value) (A : Around) (outer : List Env) (s : Shared) (H : Hp) (E : XK) (hr : Room 0 (A.deeper (envOfC "of_nothing" (defScope stof_nothing) s.heap.objs.size f cdv)))  :
    PDSs G E (cxOf CX0 P w G.K mg base ["kinds", "marks"] "of_nothing" (defScope stof_nothing) f cdv A outer s H E).nox (defBody stof_nothing) (wof_nothing c) :=
  (sds_one (sd_ret (pd_if (pt_w (pw_and (pt_eq hr.units (pd_var 0) (pd_lst ma_nil)) (pw_and1 (pt_eq hr.units (pd_var 1) (pd_tup ma_nil))))) (pd_glb T.g_TRUTH_bank) pd_non)))
abbrev stof_marks : Stmt := topS 45
theorem scof_marks : FnScope ["kinds", "marks"] ["kinds", "marks"] (defScope stof_marks) := ⟨rfl, rfl, rfl, by decide +kernel, rfl, by decide +kernel, by decide +kernel⟩
set_option maxHeartbeats 4000000 in
theorem deof_marks {P : Program} {w : World} {G : Gm} {mg : Str → Option Value} {base : Heap} {c : Cl} (hW : G.w = w) (B : Bl mg) (T : ClD G mg c) (Fis_whole : Cal P w G mg base 1 "is_whole" (spis_whole c)) {f : Addr} (cdv : Value) (A : Around) (outer : List Env) (s : Shared) (H : Hp) (E : XK) (hr : Room 1 (A.deeper (envOfC "of_marks" (defScope stof_marks) s.heap.objs.size f cdv)))  :
    PDSs G E (cxOf CX0 P w G.K mg base ["kinds", "marks"] "of_marks" (defScope stof_marks) f cdv A outer s H E).nox (defBody stof_marks) (wof_marks c) :=
  (sds_cons (sd_if (pt_w (pw_or (pt_ne hr.units (pd_var 0) (pd_lst ma_nil)) (pw_or (pt_ne hr.units (pd_callB call_LEN (cd_len rfl) B.b_len (by decide +kernel) (ma_cons (pd_var 1) ma_nil)) pd_int) (pw_or1 (pt_not (pt_val (pd_callC Fis_whole (hr.mono (by decide)) (ma_cons (pd_ix (hu_of hr) (pd_var 1) pd_int) (ma_cons pd_int (ma_cons (pd_glb T.g_MOST_BITS) ma_nil))))))))))
  (sds_one (sd_ret pd_non))
  sds_nil)
  (sds_one (sd_ret (pd_if (pt_val (pd_callC Fis_whole (hr.mono (by decide)) (ma_cons (pd_ix (hu_of hr) (pd_var 1) pd_int) (ma_cons pd_int (ma_cons (pd_op op_sub od_sub (pd_op op_shl od_shl pd_int (pd_ix (hu_of hr) (pd_var 1) pd_int)) pd_int) ma_nil))))) (pd_tup (ma_cons pd_str (ma_cons (pd_ix (hu_of hr) (pd_var 1) pd_int) ma_nil))) pd_non))))
abbrev stof_truth : Stmt := topS 46
theorem scof_truth : FnScope ["kinds", "marks"] ["kinds", "marks"] (defScope stof_truth) := ⟨rfl, rfl, rfl, by decide +kernel, rfl, by decide +kernel, by decide +kernel⟩
set_option maxHeartbeats 4000000 in
theorem deof_truth {P : Program} {w : World} {G : Gm} {mg : Str → Option Value} {base : Heap} {c : Cl} (hW : G.w = w) (B : Bl mg) (T : ClD G mg c)  {f : Addr} (cdv : Value) (A : Around) (outer : List Env) (s : Shared) (H : Hp) (E : XK) (hr : Room 0 (A.deeper (envOfC "of_truth" (defScope stof_truth) s.heap.objs.size f cdv)))  :
    PDSs G E (cxOf CX0 P w G.K mg base ["kinds", "marks"] "of_truth" (defScope stof_truth) f cdv A outer s H E).nox (defBody stof_truth) (wof_truth c) :=
  (sds_one (sd_ret (pd_if (pt_w (pw_and (pt_eq hr.units (pd_var 0) (pd_lst (ma_cons (pd_glb T.g_TRUTH_bank) ma_nil))) (pw_and1 (pt_eq hr.units (pd_var 1) (pd_tup ma_nil))))) (pd_glb T.g_TRUTH_bank) pd_non)))
abbrev stof_truths : Stmt := topS 47
theorem scof_truths : FnScope ["kinds", "marks"] ["kinds", "marks"] (defScope stof_truths) := ⟨rfl, rfl, rfl, by decide +kernel, rfl, by decide +kernel, by decide +kernel⟩
set_option maxHeartbeats 4000000 in
theorem deof_truths {P : Program} {w : World} {G : Gm} {mg : Str → Option Value} {base : Heap} {c : Cl} (hW : G.w = w) (B : Bl mg) (T : ClD G mg c)  {f : Addr} (cdv : Value) (A : Around) (outer : List Env) (s : Shared) (H : Hp) (E : XK) (hr : Room 0 (A.deeper (envOfC "of_truths" (defScope stof_truths) s.heap.objs.size f cdv)))  :
    PDSs G E (cxOf CX0 P w G.K mg base ["kinds", "marks"] "of_truths" (defScope stof_truths) f cdv A outer s H E).nox (defBody stof_truths) (wof_truths c) :=
  (sds_one (sd_ret (pd_if (pt_w (pw_and (pt_eq hr.units (pd_var 0) (pd_lst (ma_cons (pd_glb T.g_TRUTH_bank) (ma_cons (pd_glb T.g_TRUTH_bank) ma_nil)))) (pw_and1 (pt_eq hr.units (pd_var 1) (pd_tup ma_nil))))) (pd_glb T.g_TRUTH_bank) pd_non)))
abbrev stof_alike : Stmt := topS 48
theorem scof_alike : FnScope ["kinds", "marks"] ["kinds", "marks"] (defScope stof_alike) := ⟨rfl, rfl, rfl, by decide +kernel, rfl, by decide +kernel, by decide +kernel⟩
set_option maxHeartbeats 4000000 in
theorem deof_alike {P : Program} {w : World} {G : Gm} {mg : Str → Option Value} {base : Heap} {c : Cl} (hW : G.w = w) (B : Bl mg) (T : ClD G mg c)  {f : Addr} (cdv : Value) (A : Around) (outer : List Env) (s : Shared) (H : Hp) (E : XK) (hr : Room 0 (A.deeper (envOfC "of_alike" (defScope stof_alike) s.heap.objs.size f cdv)))  :
    PDSs G E (cxOf CX0 P w G.K mg base ["kinds", "marks"] "of_alike" (defScope stof_alike) f cdv A outer s H E).nox (defBody stof_alike) (wof_alike c) :=
  (sds_one (sd_ret (pd_if (pt_w (pw_and (pt_eq hr.units (pd_callB call_LEN (cd_len rfl) B.b_len (by decide +kernel) (ma_cons (pd_var 0) ma_nil)) pd_int) (pw_and (pt_eq hr.units (pd_ix (hu_of hr) (pd_var 0) pd_int) (pd_ix (hu_of hr) (pd_var 0) pd_int)) (pw_and1 (pt_eq hr.units (pd_var 1) (pd_tup ma_nil)))))) (pd_glb T.g_TRUTH_bank) pd_non)))
abbrev stof_words : Stmt := topS 49
theorem scof_words : FnScope ["kinds", "marks"] ["kinds", "marks"] (defScope stof_words) := ⟨rfl, rfl, rfl, by decide +kernel, rfl, by decide +kernel, by decide +kernel⟩
set_option maxHeartbeats 4000000 in
theorem deof_words {P : Program} {w : World} {G : Gm} {mg : Str → Option Value} {base : Heap} {c : Cl} (hW : G.w = w) (B : Bl mg) (T : ClD G mg c) (Fof_alike : Cal P w G mg base 1 "of_alike" (spof_alike c)) {f : Addr} (cdv : Value) (A : Around) (outer : List Env) (s : Shared) (H : Hp) (E : XK) (hr : Room 1 (A.deeper (envOfC "of_words" (defScope stof_words) s.heap.objs.size f cdv)))  :
    PDSs G E (cxOf CX0 P w G.K mg base ["kinds", "marks"] "of_words" (defScope stof_words) f cdv A outer s H E).nox (defBody stof_words) (wof_words c) :=
  (sds_cons (sd_if (pt_w (pw_or (pt_cmp op_isN' od_isN (pd_callC Fof_alike (hr.mono (by decide)) (ma_cons (pd_var 0) (ma_cons (pd_var 1) ma_nil))) pd_non) (pw_or1 (pt_ne hr.units (pd_ix (hu_of hr) (pd_ix (hu_of hr) (pd_var 0) pd_int) pd_int) pd_str))))
  (sds_one (sd_ret pd_non))
  sds_nil)
  (sds_one (sd_ret (pd_ix (hu_of hr) (pd_var 0) pd_int))))
abbrev stof_less : Stmt := topS 50
theorem scof_less : FnScope ["kinds", "marks"] ["kinds", "marks"] (defScope stof_less) := ⟨rfl, rfl, rfl, by decide +kernel, rfl, by decide +kernel, by decide +kernel⟩
set_option maxHeartbeats 4000000 in
theorem deof_less {P : Program} {w : World} {G : Gm} {mg : Str → Option Value} {base : Heap} {c : Cl} (hW : G.w = w) (B : Bl mg) (T : ClD G mg c) (Fof_words : Cal P w G mg base 2 "of_words" (spof_words c)) {f : Addr} (cdv : Value) (A : Around) (outer : List Env) (s : Shared) (H : Hp) (E : XK) (hr : Room 2 (A.deeper (envOfC "of_less" (defScope stof_less) s.heap.objs.size f cdv)))  :
    PDSs G E (cxOf CX0 P w G.K mg base ["kinds", "marks"] "of_less" (defScope stof_less) f cdv A outer s H E).nox (defBody stof_less) (wof_less c) :=
  (sds_one (sd_ret (pd_if (pt_cmp op_isN' od_isN (pd_callC Fof_words (hr.mono (by decide)) (ma_cons (pd_var 0) (ma_cons (pd_var 1) ma_nil))) pd_non) pd_non (pd_glb T.g_TRUTH_bank))))
abbrev stof_choice : Stmt := topS 51
theorem scof_choice : FnScope ["kinds", "marks"] ["kinds", "marks"] (defScope stof_choice) := ⟨rfl, rfl, rfl, by decide +kernel, rfl, by decide +kernel, by decide +kernel⟩
set_option maxHeartbeats 4000000 in
theorem deof_choice {P : Program} {w : World} {G : Gm} {mg : Str → Option Value} {base : Heap} {c : Cl} (hW : G.w = w) (B : Bl mg) (T : ClD G mg c) (Fof_alike : Cal P w G mg base 1 "of_alike" (spof_alike c)) {f : Addr} (cdv : Value) (A : Around) (outer : List Env) (s : Shared) (H : Hp) (E : XK) (hr : Room 1 (A.deeper (envOfC "of_choice" (defScope stof_choice) s.heap.objs.size f cdv)))  :
    PDSs G E (cxOf CX0 P w G.K mg base ["kinds", "marks"] "of_choice" (defScope stof_choice) f cdv A outer s H E).nox (defBody stof_choice) (wof_choice c) :=
  (sds_cons (sd_if (pt_w (pw_or (pt_ne hr.units (pd_slA (pd_var 0) mo_none (mo_some pd_int)) (pd_lst (ma_cons (pd_glb T.g_TRUTH_bank) ma_nil))) (pw_or1 (pt_cmp op_isN' od_isN (pd_callC Fof_alike (hr.mono (by decide)) (ma_cons (pd_slA (pd_var 0) (mo_some pd_int) mo_none) (ma_cons (pd_var 1) ma_nil))) pd_non))))
  (sds_one (sd_ret pd_non))
  sds_nil)
  (sds_one (sd_ret (pd_ix (hu_of hr) (pd_var 0) pd_int))))
abbrev stof_word : Stmt := topS 52
theorem scof_word : FnScope ["kinds", "marks"] ["kinds", "marks"] (defScope stof_word) := ⟨rfl, rfl, rfl, by decide +kernel, rfl, by decide +kernel, by decide +kernel⟩
set_option maxHeartbeats 4000000 in
theorem deof_word {P : Program} {w : World} {G : Gm} {mg : Str → Option Value} {base : Heap} {c : Cl} (hW : G.w = w) (B : Bl mg) (T : ClD G mg c)  {f : Addr} (cdv : Value) (A : Around) (outer : List Env) (s : Shared) (H : Hp) (E : XK) (hr : Room 0 (A.deeper (envOfC "of_word" (defScope stof_word) s.heap.objs.size f cdv)))  :
    PDSs G E (cxOf CX0 P w G.K mg base ["kinds", "marks"] "of_word" (defScope stof_word) f cdv A outer s H E).nox (defBody stof_word) (wof_word c) :=
  (sds_one (sd_ret (pd_if (pt_w (pw_and (pt_eq hr.units (pd_callB call_LEN (cd_len rfl) B.b_len (by decide +kernel) (ma_cons (pd_var 0) ma_nil)) pd_int) (pw_and (pt_eq hr.units (pd_ix (hu_of hr) (pd_ix (hu_of hr) (pd_var 0) pd_int) pd_int) pd_str) (pw_and1 (pt_eq hr.units (pd_var 1) (pd_tup ma_nil)))))) (pd_ix (hu_of hr) (pd_var 0) pd_int) pd_non)))
abbrev stof_joined : Stmt := topS 53
theorem scof_joined : FnScope ["kinds", "marks", "many", "kind"] ["kinds", "marks"] (defScope stof_joined) := ⟨rfl, rfl, rfl, by decide +kernel, rfl, by decide +kernel, by decide +kernel⟩
set_option maxHeartbeats 4000000 in
theorem deof_joined {P : Program} {w : World} {G : Gm} {mg : Str → Option Value} {base : Heap} {c : Cl} (hW : G.w = w) (B : Bl mg) (T : ClD G mg c)  {f : Addr} (cdv : Value) (A : Around) (outer : List Env) (s : Shared) (H : Hp) (E : XK) (hr : Room 0 (A.deeper (envOfC "of_joined" (defScope stof_joined) s.heap.objs.size f cdv)))  :
    PDSs G E (cxOf CX0 P w G.K mg base ["kinds", "marks", "many", "kind"] "of_joined" (defScope stof_joined) f cdv A outer s H E).nox (defBody stof_joined) (wof_joined c) :=
  (sds_cons (sd_if (pt_w (pw_or (pt_ne hr.units (pd_callB call_LEN (cd_len rfl) B.b_len (by decide +kernel) (ma_cons (pd_var 0) ma_nil)) pd_int) (pw_or (pt_ne hr.units (pd_var 1) (pd_tup ma_nil)) (pw_or1 (pt_ne hr.units (pd_lc [("kind", 3)] (blkOk_by (by kernel_rfl)) scof_joined.nd (mi_seq (pd_var 0)) (fun _ _ _ _ _ => (tg_nm 3 scof_joined.nd)) (fun _ _ _ _ _ => (ts_one (pt_ne hr.units (pd_ix (hu_of hr) (pd_var 3) pd_int) pd_str))) (fun _ _ _ _ _ => (pd_var 3))) (pd_lst ma_nil))))))
  (sds_one (sd_ret pd_non))
  sds_nil)
  (sds_cons (sd_set 2 (pd_op op_ADDT (od_addA rfl) (pd_ix (hu_of hr) (pd_ix (hu_of hr) (pd_var 0) pd_int) pd_int) (pd_ix (hu_of hr) (pd_ix (hu_of hr) (pd_var 0) pd_int) pd_int)) scof_joined.nd)
  (sds_one (sd_ret (pd_if (pt_cmp op_LE od_LE (pd_var 2) (pd_glb T.g_MOST_BITS)) (pd_tup (ma_cons pd_str (ma_cons (pd_var 2) ma_nil))) pd_non)))))
abbrev stof_cut : Stmt := topS 54
theorem scof_cut : FnScope ["kinds", "marks"] ["kinds", "marks"] (defScope stof_cut) := ⟨rfl, rfl, rfl, by decide +kernel, rfl, by decide +kernel, by decide +kernel⟩
set_option maxHeartbeats 4000000 in
theorem deof_cut {P : Program} {w : World} {G : Gm} {mg : Str → Option Value} {base : Heap} {c : Cl} (hW : G.w = w) (B : Bl mg) (T : ClD G mg c) (Fof_word : Cal P w G mg base 1 "of_word" (spof_word c)) (Fis_whole : Cal P w G mg base 1 "is_whole" (spis_whole c)) {f : Addr} (cdv : Value) (A : Around) (outer : List Env) (s : Shared) (H : Hp) (E : XK) (hr : Room 1 (A.deeper (envOfC "of_cut" (defScope stof_cut) s.heap.objs.size f cdv)))  :
    PDSs G E (cxOf CX0 P w G.K mg base ["kinds", "marks"] "of_cut" (defScope stof_cut) f cdv A outer s H E).nox (defBody stof_cut) (wof_cut c) :=
  (sds_cons (sd_if (pt_w (pw_or (pt_cmp op_isN' od_isN (pd_callC Fof_word (hr.mono (by decide)) (ma_cons (pd_var 0) (ma_cons (pd_tup ma_nil) ma_nil))) pd_non) (pw_or (pt_ne hr.units (pd_callB call_LEN (cd_len rfl) B.b_len (by decide +kernel) (ma_cons (pd_var 1) ma_nil)) pd_int) (pw_or1 (pt_not (pt_val (pd_callC Fis_whole (hr.mono (by decide)) (ma_cons (pd_ix (hu_of hr) (pd_var 1) pd_int) (ma_cons pd_int (ma_cons (pd_op op_sub od_sub (pd_ix (hu_of hr) (pd_ix (hu_of hr) (pd_var 0) pd_int) pd_int) pd_int) ma_nil))))))))))
  (sds_one (sd_ret pd_non))
  sds_nil)
  (sds_one (sd_ret (pd_if (pt_val (pd_callC Fis_whole (hr.mono (by decide)) (ma_cons (pd_ix (hu_of hr) (pd_var 1) pd_int) (ma_cons pd_int (ma_cons (pd_ix (hu_of hr) (pd_var 1) pd_int) ma_nil))))) (pd_tup (ma_cons pd_str (ma_cons (pd_op op_ADDT (od_addA rfl) (pd_op op_sub od_sub (pd_ix (hu_of hr) (pd_var 1) pd_int) (pd_ix (hu_of hr) (pd_var 1) pd_int)) pd_int) ma_nil))) pd_non))))
abbrev stof_read : Stmt := topS 55
theorem scof_read : FnScope ["kinds", "marks"] ["kinds", "marks"] (defScope stof_read) := ⟨rfl, rfl, rfl, by decide +kernel, rfl, by decide +kernel, by decide +kernel⟩
set_option maxHeartbeats 4000000 in
theorem deof_read {P : Program} {w : World} {G : Gm} {mg : Str → Option Value} {base : Heap} {c : Cl} (hW : G.w = w) (B : Bl mg) (T : ClD G mg c)  {f : Addr} (cdv : Value) (A : Around) (outer : List Env) (s : Shared) (H : Hp) (E : XK) (hr : Room 0 (A.deeper (envOfC "of_read" (defScope stof_read) s.heap.objs.size f cdv)))  :
    PDSs G E (cxOf CX0 P w G.K mg base ["kinds", "marks"] "of_read" (defScope stof_read) f cdv A outer s H E).nox (defBody stof_read) (wof_read c) :=
  (sds_cons (sd_if (pt_w (pw_or (pt_ne hr.units (pd_callB call_LEN (cd_len rfl) B.b_len (by decide +kernel) (ma_cons (pd_var 0) ma_nil)) pd_int) (pw_or (pt_ne hr.units (pd_var 1) (pd_tup ma_nil)) (pw_or (pt_ne hr.units (pd_ix (hu_of hr) (pd_ix (hu_of hr) (pd_var 0) pd_int) pd_int) pd_str) (pw_or1 (pt_ne hr.units (pd_ix (hu_of hr) (pd_var 0) pd_int) (pd_tup (ma_cons pd_str (ma_cons (pd_ix (hu_of hr) (pd_ix (hu_of hr) (pd_var 0) pd_int) pd_int) ma_nil)))))))))
  (sds_one (sd_ret pd_non))
  sds_nil)
  (sds_one (sd_ret (pd_tup (ma_cons pd_str (ma_cons (pd_ix (hu_of hr) (pd_ix (hu_of hr) (pd_var 0) pd_int) pd_int) ma_nil))))))
abbrev stof_written : Stmt := topS 56
theorem scof_written : FnScope ["kinds", "marks"] ["kinds", "marks"] (defScope stof_written) := ⟨rfl, rfl, rfl, by decide +kernel, rfl, by decide +kernel, by decide +kernel⟩
set_option maxHeartbeats 4000000 in
theorem deof_written {P : Program} {w : World} {G : Gm} {mg : Str → Option Value} {base : Heap} {c : Cl} (hW : G.w = w) (B : Bl mg) (T : ClD G mg c) (Fof_read : Cal P w G mg base 1 "of_read" (spof_read c)) {f : Addr} (cdv : Value) (A : Around) (outer : List Env) (s : Shared) (H : Hp) (E : XK) (hr : Room 1 (A.deeper (envOfC "of_written" (defScope stof_written) s.heap.objs.size f cdv)))  :
    PDSs G E (cxOf CX0 P w G.K mg base ["kinds", "marks"] "of_written" (defScope stof_written) f cdv A outer s H E).nox (defBody stof_written) (wof_written c) :=
  (sds_cons (sd_if (pt_w (pw_or (pt_cmp op_isN' od_isN (pd_callC Fof_read (hr.mono (by decide)) (ma_cons (pd_slA (pd_var 0) mo_none (mo_some pd_int)) (ma_cons (pd_var 1) ma_nil))) pd_non) (pw_or1 (pt_ne hr.units (pd_slA (pd_var 0) (mo_some pd_int) mo_none) (pd_lst (ma_cons (pd_tup (ma_cons pd_str (ma_cons (pd_ix (hu_of hr) (pd_ix (hu_of hr) (pd_var 0) pd_int) pd_int) ma_nil))) ma_nil))))))
  (sds_one (sd_ret pd_non))
  sds_nil)
  (sds_one (sd_ret (pd_ix (hu_of hr) (pd_var 0) pd_int))))
abbrev stkind_by : Stmt := topS 58
theorem sckind_by : FnScope ["word", "kinds", "marks", "rule"] ["word", "kinds", "marks"] (defScope stkind_by) := ⟨rfl, rfl, rfl, by decide +kernel, rfl, by decide +kernel, by decide +kernel⟩
set_option maxHeartbeats 4000000 in
theorem dekind_by {P : Program} {w : World} {G : Gm} {mg : Str → Option Value} {base : Heap} {c : Cl} (hW : G.w = w) (B : Bl mg) (T : ClD G mg c) (ARULES : ∀ q ∈ cbRULES c, CalT P w G mg base 3 q.1 q.2) {f : Addr} (cdv : Value) (A : Around) (outer : List Env) (s : Shared) (H : Hp) (E : XK) (hr : Room 3 (A.deeper (envOfC "kind_by" (defScope stkind_by) s.heap.objs.size f cdv)))  :
    PDSs G E (cxOf CX0 P w G.K mg base ["word", "kinds", "marks", "rule"] "kind_by" (defScope stkind_by) f cdv A outer s H E).nox (defBody stkind_by) (wkind_by c) :=
  (sds_cons (sd_set 3 (pd_ixKD T.t_RULES (pd_glb T.g_RULES) (pd_var 0)) sckind_by.nd)
  (sds_one (sd_ret (pd_callT (i := 3) ARULES (hr.mono (by decide)) (fun _ => (ma_cons (pd_var 1) (ma_cons (pd_var 2) ma_nil)))))))
abbrev stis_name : Stmt := topS 59
theorem scis_name : FnScope ["text", "sign"] ["text"] (defScope stis_name) := ⟨rfl, rfl, rfl, by decide +kernel, rfl, by decide +kernel, by decide +kernel⟩
set_option maxHeartbeats 4000000 in
theorem deis_name {P : Program} {w : World} {G : Gm} {mg : Str → Option Value} {base : Heap} {c : Cl} (hW : G.w = w) (B : Bl mg) (T : ClD G mg c)  {f : Addr} (cdv : Value) (A : Around) (outer : List Env) (s : Shared) (H : Hp) (E : XK) (hr : Room 0 (A.deeper (envOfC "is_name" (defScope stis_name) s.heap.objs.size f cdv)))  :
    PDSs G E (cxOf CX0 P w G.K mg base ["text", "sign"] "is_name" (defScope stis_name) f cdv A outer s H E).nox (defBody stis_name) (wis_name c) :=
  (sds_cons (sd_if (pt_w (pw_or (pt_not (pt_val (pd_callB call_ISI (cd_isi rfl) B.b_isinstance (by decide +kernel) (ma_cons (pd_var 0) (ma_cons (pd_ty B.b_str (by decide +kernel)) ma_nil))))) (pw_or1 (pt_not (pt_chn op_le od_le op_le od_le pd_int (pd_callB call_LEN (cd_len rfl) B.b_len (by decide +kernel) (ma_cons (pd_var 0) ma_nil)) (pd_glb T.g_MOST_LETTERS))))))
  (sds_one (sd_ret pd_bl))
  sds_nil)
  (sds_cons (sd_if (pt_w (pw_or (pt_inKD T.t_RULES (pd_var 0) (pd_glb T.g_RULES)) (pw_or1 (pt_in (hu_of hr) (pd_var 0) (pd_tup (ma_cons pd_str (ma_cons pd_str ma_nil)))))))
  (sds_one (sd_ret pd_bl))
  sds_nil)
  (sds_one (sd_ret (pd_callB (cr_all rfl) (cd_all rfl) B.b_all (by decide +kernel) (ma_cons (pd_lc [("sign", 1)] (blkOk_by (by kernel_rfl)) scis_name.nd (mi_str (pd_var 0)) (fun _ _ _ _ _ => (tg_nm 1 scis_name.nd)) (fun _ _ _ _ _ => ts_nil) (fun _ _ _ _ _ => (pd_in (hu_of hr) (pd_var 1) (pd_glb T.g_LETTERS)))) ma_nil))))))
abbrev stneed_term : Stmt := topS 60
theorem scneed_term : FnScope ["bank", "term"] ["bank", "term"] (defScope stneed_term) := ⟨rfl, rfl, rfl, by decide +kernel, rfl, by decide +kernel, by decide +kernel⟩
set_option maxHeartbeats 4000000 in
theorem deneed_term {P : Program} {w : World} {G : Gm} {mg : Str → Option Value} {base : Heap} {c : Cl} (hW : G.w = w) (B : Bl mg) (T : ClD G mg c) (Fis_whole : Cal P w G mg base 1 "is_whole" (spis_whole c)) {f : Addr} (cdv : Value) (A : Around) (outer : List Env) (s : Shared) (H : Hp) (E : XK) (hr : Room 1 (A.deeper (envOfC "need_term" (defScope stneed_term) s.heap.objs.size f cdv)))  :
    PDSs G E (cxOf CX0 P w G.K mg base ["bank", "term"] "need_term" (defScope stneed_term) f cdv A outer s H E).nox (defBody stneed_term) (wneed_term c) :=
  (sds_one (sd_if (pt_not (pt_val (pd_callC Fis_whole (hr.mono (by decide)) (ma_cons (pd_var 1) (ma_cons pd_int (ma_cons (pd_op op_sub od_sub (pd_callB call_LEN (cd_len rfl) B.b_len (by decide +kernel) (ma_cons (pd_fld T.Bank 0 (pd_var 0)) ma_nil)) pd_int) ma_nil))))))
  (sds_one sd_never)
  sds_nil))
abbrev stput_in : Stmt := topS 61
theorem scput_in : FnScope ["bank", "made", "sort"] ["bank", "made", "sort"] (defScope stput_in) := ⟨rfl, rfl, rfl, by decide +kernel, rfl, by decide +kernel, by decide +kernel⟩
set_option maxHeartbeats 4000000 in
theorem deput_in {P : Program} {w : World} {G : Gm} {mg : Str → Option Value} {base : Heap} {c : Cl} (hW : G.w = w) (B : Bl mg) (T : ClD G mg c)  {f : Addr} (cdv : Value) (A : Around) (outer : List Env) (s : Shared) (H : Hp) (E : XK) (hr : Room 0 (A.deeper (envOfC "put_in" (defScope stput_in) s.heap.objs.size f cdv)))  :
    PDSs G E (cxOf CX0 P w G.K mg base ["bank", "made", "sort"] "put_in" (defScope stput_in) f cdv A outer s H E).nox (defBody stput_in) (wput_in c) :=
  (sds_cons (sd_if (pt_ninN (hu20 hr) (pd_var 1) (pd_fld T.Bank 2 (pd_var 0)))
  (sds_cons (sd_asg (pd_callB call_LEN (cd_len rfl) B.b_len (by decide +kernel) (ma_cons (pd_fld T.Bank 0 (pd_var 0)) ma_nil)) (gd_sbN (hu20 hr) (pd_fld T.Bank 2 (pd_var 0)) (pd_var 1)))
  (sds_cons (sd_expr (pd_lm PySem.F.slot_list_append PySem.F.type_list_append mt_append md_app (pd_fld T.Bank 0 (pd_var 0)) (ma_cons (pd_var 1) ma_nil)))
  (sds_one (sd_expr (pd_lm PySem.F.slot_list_append PySem.F.type_list_append mt_append md_app (pd_fld T.Bank 1 (pd_var 0)) (ma_cons (pd_var 2) ma_nil))))))
  sds_nil)
  (sds_one (sd_ret (pd_ixN (hu20 hr) (pd_fld T.Bank 2 (pd_var 0)) (pd_var 1)))))
abbrev stBank_DinitD : Stmt := inClass (topS 62) 0
theorem scBank_DinitD : FnScope ["self"] ["self"] (defScope stBank_DinitD) := ⟨rfl, rfl, rfl, by decide +kernel, rfl, by decide +kernel, by decide +kernel⟩
set_option maxHeartbeats 4000000 in
theorem deBank_DinitD {P : Program} {w : World} {G : Gm} {mg : Str → Option Value} {base : Heap} {c : Cl} (hW : G.w = w) (B : Bl mg) (T : ClD G mg c)  {f : Addr} (cdv : Value) (A : Around) (outer : List Env) (s : Shared) (H : Hp) (E : XK) (hr : Room 0 (A.deeper (envOfC "Bank.__init__" (defScope stBank_DinitD) s.heap.objs.size f cdv)))  :
    PDSs G E (cxOf CX0 P w G.K mg base ["self"] "Bank.__init__" (defScope stBank_DinitD) f cdv A outer s H E).nox (defBody stBank_DinitD) (wBank_DinitD c) :=
  (sds_cons (sd_fld T.Bank 0 (pd_var 0) (pd_lstH ma_nil))
  (sds_cons (sd_fld T.Bank 1 (pd_var 0) (pd_lstH ma_nil))
  (sds_cons (sd_fld T.Bank 2 (pd_var 0) pd_dicN)
  (sds_one (sd_fld T.Bank 3 (pd_var 0) pd_dic)))))
abbrev stBank_make : Stmt := inClass (topS 62) 1
theorem scBank_make : FnScope ["self", "word", "parts", "marks", "part", "sort"] ["self", "word", "parts", "marks"] (defScope stBank_make) := ⟨rfl, rfl, rfl, by decide +kernel, rfl, by decide +kernel, by decide +kernel⟩
set_option maxHeartbeats 4000000 in
theorem deBank_make {P : Program} {w : World} {G : Gm} {mg : Str → Option Value} {base : Heap} {c : Cl} (hW : G.w = w) (B : Bl mg) (T : ClD G mg c) (Fneed_term : Cal P w G mg base 2 "need_term" (spneed_term c)) (Fkind_by : Cal P w G mg base 4 "kind_by" (spkind_by c)) (Fput_in : Cal P w G mg base 1 "put_in" (spput_in c)) {f : Addr} (cdv : Value) (A : Around) (outer : List Env) (s : Shared) (H : Hp) (E : XK) (hr : Room 4 (A.deeper (envOfC "Bank.make" (defScope stBank_make) s.heap.objs.size f cdv)))  :
    PDSs G E (cxOf CX0 P w G.K mg base ["self", "word", "parts", "marks", "part", "sort"] "Bank.make" (defScope stBank_make) f cdv A outer s H E).nox (defBody stBank_make) (wBank_make c) :=
  (sds_cons (sd_if (pt_ninKD T.t_RULES (pd_var 1) (pd_glb T.g_RULES))
  (sds_one sd_never)
  sds_nil)
  (sds_cons (sd_for PassesOwn.never (mi_seq (pd_var 2)) (gd_nm 4 scBank_make.nd)
  (sds_one (sd_expr (pd_callC Fneed_term (hr.mono (by decide)) (ma_cons (pd_var 0) (ma_cons (pd_var 4) ma_nil))))))
  (sds_cons (sd_set 5 (pd_callC Fkind_by (hr.mono (by decide)) (ma_cons (pd_var 1) (ma_cons (pd_lc [("part", 4)] (blkOk_by (by kernel_rfl)) scBank_make.nd (mi_seq (pd_var 2)) (fun _ _ _ _ _ => (tg_nm 4 scBank_make.nd)) (fun _ _ _ _ _ => ts_nil) (fun _ _ _ _ _ => (pd_ix (hu_of hr) (pd_fld T.Bank 1 (pd_var 0)) (pd_var 4)))) (ma_cons (pd_callTy call_TUPLE (cd_tuple rfl) B.b_tuple (by decide +kernel) (ma_cons (pd_var 3) ma_nil)) ma_nil)))) scBank_make.nd)
  (sds_cons (sd_if (pt_cmp op_isN' od_isN (pd_var 5) pd_non)
  (sds_one sd_never)
  sds_nil)
  (sds_one (sd_ret (pd_callC Fput_in (hr.mono (by decide)) (ma_cons (pd_var 0) (ma_cons (pd_tup (ma_cons (pd_var 1) (ma_cons (pd_callTy call_TUPLE (cd_tuple rfl) B.b_tuple (by decide +kernel) (ma_cons (pd_var 2) ma_nil)) (ma_cons (pd_callTy call_TUPLE (cd_tuple rfl) B.b_tuple (by decide +kernel) (ma_cons (pd_var 3) ma_nil)) ma_nil)))) (ma_cons (pd_var 5) ma_nil))))))))))
abbrev stBank_name : Stmt := inClass (topS 62) 2
theorem scBank_name : FnScope ["self", "text", "kind", "sort"] ["self", "text", "kind"] (defScope stBank_name) := ⟨rfl, rfl, rfl, by decide +kernel, rfl, by decide +kernel, by decide +kernel⟩
set_option maxHeartbeats 4000000 in
theorem deBank_name {P : Program} {w : World} {G : Gm} {mg : Str → Option Value} {base : Heap} {c : Cl} (hW : G.w = w) (B : Bl mg) (T : ClD G mg c) (Fas_kind : Cal P w G mg base 2 "as_kind" (spas_kind c)) (Fis_name : Cal P w G mg base 1 "is_name" (spis_name c)) (Fput_in : Cal P w G mg base 1 "put_in" (spput_in c)) {f : Addr} (cdv : Value) (A : Around) (outer : List Env) (s : Shared) (H : Hp) (E : XK) (hr : Room 2 (A.deeper (envOfC "Bank.name" (defScope stBank_name) s.heap.objs.size f cdv)))  :
    PDSs G E (cxOf CX0 P w G.K mg base ["self", "text", "kind", "sort"] "Bank.name" (defScope stBank_name) f cdv A outer s H E).nox (defBody stBank_name) (wBank_name c) :=
  (sds_cons (sd_set 3 (pd_callC Fas_kind (hr.mono (by decide)) (ma_cons (pd_var 2) ma_nil)) scBank_name.nd)
  (sds_cons (sd_if (pt_not (pt_val (pd_callC Fis_name (hr.mono (by decide)) (ma_cons (pd_var 1) ma_nil))))
  (sds_one sd_never)
  sds_nil)
  (sds_cons (sd_if (pt_cmp op_isN' od_isN (pd_var 3) pd_non)
  (sds_one sd_never)
  sds_nil)
  (sds_cons (sd_if (pt_w (pw_and (pt_in (hu_of hr) (pd_var 1) (pd_fld T.Bank 3 (pd_var 0))) (pw_and1 (pt_ne hr.units (pd_ix (hu_of hr) (pd_fld T.Bank 1 (pd_var 0)) (pd_ix (hu_of hr) (pd_fld T.Bank 3 (pd_var 0)) (pd_var 1))) (pd_var 3)))))
  (sds_one sd_never)
  sds_nil)
  (sds_cons (sd_asg (pd_callC Fput_in (hr.mono (by decide)) (ma_cons (pd_var 0) (ma_cons (pd_tup (ma_cons pd_str (ma_cons (pd_tup ma_nil) (ma_cons (pd_tup (ma_cons (pd_var 1) (ma_cons (pd_var 3) ma_nil))) ma_nil)))) (ma_cons (pd_var 3) ma_nil)))) (gd_sb (hu_of hr) (pd_fld T.Bank 3 (pd_var 0)) (pd_var 1)))
  (sds_one (sd_ret (pd_ix (hu_of hr) (pd_fld T.Bank 3 (pd_var 0)) (pd_var 1)))))))))
abbrev stBank_kind : Stmt := inClass (topS 62) 3
theorem scBank_kind : FnScope ["self", "term"] ["self", "term"] (defScope stBank_kind) := ⟨rfl, rfl, rfl, by decide +kernel, rfl, by decide +kernel, by decide +kernel⟩
set_option maxHeartbeats 4000000 in
theorem deBank_kind {P : Program} {w : World} {G : Gm} {mg : Str → Option Value} {base : Heap} {c : Cl} (hW : G.w = w) (B : Bl mg) (T : ClD G mg c) (Fneed_term : Cal P w G mg base 2 "need_term" (spneed_term c)) {f : Addr} (cdv : Value) (A : Around) (outer : List Env) (s : Shared) (H : Hp) (E : XK) (hr : Room 2 (A.deeper (envOfC "Bank.kind" (defScope stBank_kind) s.heap.objs.size f cdv)))  :
    PDSs G E (cxOf CX0 P w G.K mg base ["self", "term"] "Bank.kind" (defScope stBank_kind) f cdv A outer s H E).nox (defBody stBank_kind) (wBank_kind c) :=
  (sds_cons (sd_expr (pd_callC Fneed_term (hr.mono (by decide)) (ma_cons (pd_var 0) (ma_cons (pd_var 1) ma_nil))))
  (sds_one (sd_ret (pd_ix (hu_of hr) (pd_fld T.Bank 1 (pd_var 0)) (pd_var 1)))))
abbrev stBank_node : Stmt := inClass (topS 62) 4
theorem scBank_node : FnScope ["self", "term"] ["self", "term"] (defScope stBank_node) := ⟨rfl, rfl, rfl, by decide +kernel, rfl, by decide +kernel, by decide +kernel⟩
set_option maxHeartbeats 4000000 in
theorem deBank_node {P : Program} {w : World} {G : Gm} {mg : Str → Option Value} {base : Heap} {c : Cl} (hW : G.w = w) (B : Bl mg) (T : ClD G mg c) (Fneed_term : Cal P w G mg base 2 "need_term" (spneed_term c)) {f : Addr} (cdv : Value) (A : Around) (outer : List Env) (s : Shared) (H : Hp) (E : XK) (hr : Room 2 (A.deeper (envOfC "Bank.node" (defScope stBank_node) s.heap.objs.size f cdv)))  :
    PDSs G E (cxOf CX0 P w G.K mg base ["self", "term"] "Bank.node" (defScope stBank_node) f cdv A outer s H E).nox (defBody stBank_node) (wBank_node c) :=
  (sds_cons (sd_expr (pd_callC Fneed_term (hr.mono (by decide)) (ma_cons (pd_var 0) (ma_cons (pd_var 1) ma_nil))))
  (sds_one (sd_ret (pd_ix (hu_of hr) (pd_fld T.Bank 0 (pd_var 0)) (pd_var 1)))))
abbrev stBank_names : Stmt := inClass (topS 62) 5
theorem scBank_names : FnScope ["self", "text"] ["self"] (defScope stBank_names) := ⟨rfl, rfl, rfl, by decide +kernel, rfl, by decide +kernel, by decide +kernel⟩
set_option maxHeartbeats 4000000 in
theorem deBank_names {P : Program} {w : World} {G : Gm} {mg : Str → Option Value} {base : Heap} {c : Cl} (hW : G.w = w) (B : Bl mg) (T : ClD G mg c)  {f : Addr} (cdv : Value) (A : Around) (outer : List Env) (s : Shared) (H : Hp) (E : XK) (hr : Room 0 (A.deeper (envOfC "Bank.names" (defScope stBank_names) s.heap.objs.size f cdv)))  :
    PDSs G E (cxOf CX0 P w G.K mg base ["self", "text"] "Bank.names" (defScope stBank_names) f cdv A outer s H E).nox (defBody stBank_names) (wBank_names c) :=
  (sds_one (sd_ret (pd_lockE (pd_lc [("text", 1)] (blkOk_by (by kernel_rfl)) scBank_names.nd (mi_kF (pd_fld T.Bank 3 (pd_var 0))) (fun _ _ _ _ _ => (tg_nm 1 scBank_names.nd)) (fun _ _ _ _ _ => ts_nil) (fun _ _ _ _ _ => (pd_tup (ma_cons (pd_var 1) (ma_cons (pd_ix (hu_of hr) (pd_fld T.Bank 1 (pd_var 0)) (pd_ixF (hu_of hr) (pd_fld T.Bank 3 (pd_var 0)) (pd_var 1))) ma_nil))))))))
abbrev st_law_spring : Stmt := topS 64
theorem sc_law_spring : FnScope ["_law_script", "_law_figures", "_law_stir", "_law_cell"] ["_law_script"] (defScope st_law_spring) := ⟨rfl, rfl, rfl, by decide +kernel, rfl, by decide +kernel, by decide +kernel⟩
set_option maxHeartbeats 4000000 in
theorem de_law_spring {P : Program} {w : World} {G : Gm} {mg : Str → Option Value} {base : Heap} {c : Cl} (hW : G.w = w) (B : Bl mg) (T : ClD G mg c)  {f : Addr} (cdv : Value) (A : Around) (outer : List Env) (s : Shared) (H : Hp) (E : XK) (hr : Room 0 (A.deeper (envOfC "_law_spring" (defScope st_law_spring) s.heap.objs.size f cdv)))  :
    PDSs G E (cxOf CX0 P w G.K mg base ["_law_script", "_law_figures", "_law_stir", "_law_cell"] "_law_spring" (defScope st_law_spring) f cdv A outer s H E).nox (defBody st_law_spring) (w_law_spring c) :=
  (sds_cons (sd_set 1 pd_int sc_law_spring.nd)
  (sds_cons (sd_set 2 pd_int sc_law_spring.nd)
  (sds_cons (sd_for PassesOwn.never (mi_seq (pd_slA (pd_var 0) mo_none (mo_some pd_int))) (gd_nm 3 sc_law_spring.nd)
  (sds_cons (sd_if (pt_cmp op_ge od_ge (pd_callB call_abs cd_abs B.b_abs (by decide +kernel) (ma_cons (pd_var 3) ma_nil)) (pd_op op_pow od_pow pd_int pd_int))
  (sds_one (sd_set 1 (pd_op op_ADDT (od_addA rfl) (pd_op op_MULT (od_mulA rfl) (pd_var 1) (pd_op op_pow od_pow pd_int pd_int)) (pd_op op_mod od_mod (pd_callB call_abs cd_abs B.b_abs (by decide +kernel) (ma_cons (pd_var 3) ma_nil)) (pd_op op_pow od_pow pd_int pd_int))) sc_law_spring.nd))
  sds_nil)
  (sds_one (sd_set 2 (pd_op op_mod od_mod (pd_op op_ADDT (od_addA rfl) (pd_op op_ADDT (od_addA rfl) (pd_op op_MULT (od_mulA rfl) (pd_var 2) pd_int) (pd_op op_mod od_mod (pd_var 3) pd_int)) pd_int) pd_int) sc_law_spring.nd))))
  (sds_one (sd_ret (pd_lstH (ma_cons (pd_var 1) (ma_cons (pd_var 2) (ma_cons pd_int ma_nil)))))))))
abbrev st_law_draw : Stmt := topS 65
theorem sc_law_draw : FnScope ["_law_spring_here", "_law_many", "_law_stir", "_law_found"] ["_law_spring_here", "_law_many"] (defScope st_law_draw) := ⟨rfl, rfl, rfl, by decide +kernel, rfl, by decide +kernel, by decide +kernel⟩
set_option maxHeartbeats 4000000 in
theorem de_law_draw {P : Program} {w : World} {G : Gm} {mg : Str → Option Value} {base : Heap} {c : Cl} (hW : G.w = w) (B : Bl mg) (T : ClD G mg c)  {f : Addr} (cdv : Value) (A : Around) (outer : List Env) (s : Shared) (H : Hp) (E : XK) (hr : Room 0 (A.deeper (envOfC "_law_draw" (defScope st_law_draw) s.heap.objs.size f cdv)))  :
    PDSs G E (cxOf CX0 P w G.K mg base ["_law_spring_here", "_law_many", "_law_stir", "_law_found"] "_law_draw" (defScope st_law_draw) f cdv A outer s H E).nox (defBody st_law_draw) (w_law_draw c) :=
  (sds_cons (sd_if (pt_cmp op_gt od_gt (pd_ix (hu_of hr) (pd_var 0) pd_int) pd_int)
  (sds_cons (sd_set 3 (pd_op op_mod od_mod (pd_ix (hu_of hr) (pd_var 0) pd_int) (pd_var 1)) sc_law_draw.nd)
  (sds_cons (sd_asg (pd_op op_fdivW od_div (pd_ix (hu_of hr) (pd_var 0) pd_int) (pd_var 1)) (gd_sb (hu_of hr) (pd_var 0) pd_int))
  (sds_one (sd_ret (pd_var 3)))))
  sds_nil)
  (sds_cons (sd_asg (pd_op op_ADDT (od_addA rfl) (pd_ix (hu_of hr) (pd_var 0) pd_int) pd_int) (gd_sb (hu_of hr) (pd_var 0) pd_int))
  (sds_cons (sd_set 2 (pd_op op_mod od_mod (pd_op op_MULT (od_mulA rfl) (pd_ix (hu_of hr) (pd_var 0) pd_int) (pd_ix (hu_of hr) (pd_var 0) pd_int)) pd_int) sc_law_draw.nd)
  (sds_cons (sd_asg (pd_op op_mod od_mod (pd_op op_ADDT (od_addA rfl) (pd_op op_ADDT (od_addA rfl) (pd_var 2) (pd_op op_MULT (od_mulA rfl) (pd_op op_MULT (od_mulA rfl) pd_int (pd_ix (hu_of hr) (pd_var 0) pd_int)) (pd_ix (hu_of hr) (pd_var 0) pd_int))) pd_int) pd_int) (gd_sb (hu_of hr) (pd_var 0) pd_int))
  (sds_one (sd_ret (pd_op op_mod od_mod (pd_op op_fdivW od_div (pd_ix (hu_of hr) (pd_var 0) pd_int) pd_int) (pd_var 1))))))))
abbrev st_law_words : Stmt := topS 66
theorem sc_law_words : FnScope ["_law_spring_here", "_law_size", "_law_found", "_law_k", "_law_long", "_law_base", "_law_at", "_law_own", "_law_name"] ["_law_spring_here", "_law_size"] (defScope st_law_words) := ⟨rfl, rfl, rfl, by decide +kernel, rfl, by decide +kernel, by decide +kernel⟩
set_option maxHeartbeats 4000000 in
theorem de_law_words {P : Program} {w : World} {G : Gm} {mg : Str → Option Value} {base : Heap} {c : Cl} (hW : G.w = w) (B : Bl mg) (T : ClD G mg c) (F_law_draw : Cal P w G mg base 1 "_law_draw" (sp_law_draw c)) {f : Addr} (cdv : Value) (A : Around) (outer : List Env) (s : Shared) (H : Hp) (E : XK) (hr : Room 1 (A.deeper (envOfC "_law_words" (defScope st_law_words) s.heap.objs.size f cdv)))  :
    PDSs G E (cxOf CX0 P w G.K mg base ["_law_spring_here", "_law_size", "_law_found", "_law_k", "_law_long", "_law_base", "_law_at", "_law_own", "_law_name"] "_law_words" (defScope st_law_words) f cdv A outer s H E).nox (defBody st_law_words) (w_law_words c) :=
  (sds_cons (sd_set 2 (pd_lstH ma_nil) sc_law_words.nd)
  (sds_cons (sd_for PassesOwn.never (mi_r1 B.b_range (ma_cons (pd_var 1) ma_nil)) (gd_nm 3 sc_law_words.nd)
  (sds_cons (sd_set 4 (pd_ix (hu_of hr) (pd_lst (ma_cons pd_int (ma_cons pd_int (ma_cons pd_int (ma_cons pd_int (ma_cons pd_int (ma_cons pd_int ma_nil))))))) (pd_callC F_law_draw (hr.mono (by decide)) (ma_cons (pd_var 0) (ma_cons pd_int ma_nil)))) sc_law_words.nd)
  (sds_cons (sd_set 5 (pd_join pd_str (pd_lc [("_law_at", 6)] (blkOk_by (by kernel_rfl)) sc_law_words.nd (mi_r1 B.b_range (ma_cons (pd_var 4) ma_nil)) (fun _ _ _ _ _ => (tg_nm 6 sc_law_words.nd)) (fun _ _ _ _ _ => ts_nil) (fun _ _ _ _ _ => (pd_ix (hu_of hr) pd_str (pd_callC F_law_draw (hr.mono (by decide)) (ma_cons (pd_var 0) (ma_cons pd_int ma_nil))))))) sc_law_words.nd)
  (sds_cons (sd_set 6 (pd_callC F_law_draw (hr.mono (by decide)) (ma_cons (pd_var 0) (ma_cons (pd_op op_ADDT (od_addA rfl) (pd_var 4) pd_int) ma_nil))) sc_law_words.nd)
  (sds_cons (sd_set 7 (pd_ix (hu_of hr) pd_str (pd_var 3)) sc_law_words.nd)
  (sds_cons (sd_set 8 (pd_op op_ADDT (od_addA rfl) (pd_op op_ADDT (od_addA rfl) (pd_slA (pd_var 5) mo_none (mo_some (pd_var 6))) (pd_var 7)) (pd_slA (pd_var 5) (mo_some (pd_var 6)) mo_none)) sc_law_words.nd)
  (sds_cons (sd_if (pt_in (hu_of hr) (pd_var 8) (pd_lst (ma_cons pd_str (ma_cons pd_str (ma_cons pd_str (ma_cons pd_str (ma_cons pd_str (ma_cons pd_str (ma_cons pd_str (ma_cons pd_str (ma_cons pd_str (ma_cons pd_str ma_nil))))))))))))
  (sds_one (sd_set 8 (pd_op op_ADDT (od_addA rfl) (pd_var 8) (pd_var 7)) sc_law_words.nd))
  sds_nil)
  (sds_one (sd_expr (pd_lm PySem.F.slot_list_append PySem.F.type_list_append mt_append md_app (pd_var 2) (ma_cons (pd_var 8) ma_nil)))))))))))
  (sds_one (sd_ret (pd_var 2)))))
abbrev st_law_signs : Stmt := topS 67
theorem sc_law_signs : FnScope ["_law_number_here", "_law_width", "_law_found", "_law_place"] ["_law_number_here", "_law_width"] (defScope st_law_signs) := ⟨rfl, rfl, rfl, by decide +kernel, rfl, by decide +kernel, by decide +kernel⟩
set_option maxHeartbeats 4000000 in
theorem de_law_signs {P : Program} {w : World} {G : Gm} {mg : Str → Option Value} {base : Heap} {c : Cl} (hW : G.w = w) (B : Bl mg) (T : ClD G mg c)  {f : Addr} (cdv : Value) (A : Around) (outer : List Env) (s : Shared) (H : Hp) (E : XK) (hr : Room 0 (A.deeper (envOfC "_law_signs" (defScope st_law_signs) s.heap.objs.size f cdv)))  :
    PDSs G E (cxOf CX0 P w G.K mg base ["_law_number_here", "_law_width", "_law_found", "_law_place"] "_law_signs" (defScope st_law_signs) f cdv A outer s H E).nox (defBody st_law_signs) (w_law_signs c) :=
  (sds_cons (sd_set 2 (pd_lst ma_nil) sc_law_signs.nd)
  (sds_cons (sd_for PassesOwn.never (mi_r1 B.b_range (ma_cons (pd_var 1) ma_nil)) (gd_nm 3 sc_law_signs.nd)
  (sds_one (sd_set 2 (pd_op op_ADDT (od_addA rfl) (pd_lst (ma_cons (pd_op op_mod od_mod (pd_op op_fdivW od_div (pd_var 0) (pd_op op_shl od_shl pd_int (pd_var 3))) pd_int) ma_nil)) (pd_var 2)) sc_law_signs.nd)))
  (sds_one (sd_ret (pd_var 2)))))
abbrev st_law_number : Stmt := topS 68
theorem sc_law_number : FnScope ["_law_bits", "_law_found", "_law_bit"] ["_law_bits"] (defScope st_law_number) := ⟨rfl, rfl, rfl, by decide +kernel, rfl, by decide +kernel, by decide +kernel⟩
set_option maxHeartbeats 4000000 in
theorem de_law_number {P : Program} {w : World} {G : Gm} {mg : Str → Option Value} {base : Heap} {c : Cl} (hW : G.w = w) (B : Bl mg) (T : ClD G mg c)  {f : Addr} (cdv : Value) (A : Around) (outer : List Env) (s : Shared) (H : Hp) (E : XK) (hr : Room 0 (A.deeper (envOfC "_law_number" (defScope st_law_number) s.heap.objs.size f cdv)))  :
    PDSs G E (cxOf CX0 P w G.K mg base ["_law_bits", "_law_found", "_law_bit"] "_law_number" (defScope st_law_number) f cdv A outer s H E).nox (defBody st_law_number) (w_law_number c) :=
  (sds_cons (sd_set 1 pd_int sc_law_number.nd)
  (sds_cons (sd_for PassesOwn.never (mi_seq (pd_var 0)) (gd_nm 2 sc_law_number.nd)
  (sds_one (sd_set 1 (pd_op op_ADDT (od_addA rfl) (pd_op op_MULT (od_mulA rfl) pd_int (pd_var 1)) (pd_var 2)) sc_law_number.nd)))
  (sds_one (sd_ret (pd_var 1)))))
abbrev st_law_whole : Stmt := topS 69
theorem sc_law_whole : FnScope ["_law_found", "_law_due"] ["_law_found", "_law_due"] (defScope st_law_whole) := ⟨rfl, rfl, rfl, by decide +kernel, rfl, by decide +kernel, by decide +kernel⟩
set_option maxHeartbeats 4000000 in
theorem de_law_whole {P : Program} {w : World} {G : Gm} {mg : Str → Option Value} {base : Heap} {c : Cl} (hW : G.w = w) (B : Bl mg) (T : ClD G mg c)  {f : Addr} (cdv : Value) (A : Around) (outer : List Env) (s : Shared) (H : Hp) (E : XK) (hr : Room 0 (A.deeper (envOfC "_law_whole" (defScope st_law_whole) s.heap.objs.size f cdv)))  :
    PDSs G E (cxOf CX0 P w G.K mg base ["_law_found", "_law_due"] "_law_whole" (defScope st_law_whole) f cdv A outer s H E).nox (defBody st_law_whole) (w_law_whole c) :=
  (sds_one (sd_ret (pd_and (pd_callB call_ISI (cd_isi rfl) B.b_isinstance (by decide +kernel) (ma_cons (pd_var 0) (ma_cons (pd_ty B.b_int (by decide +kernel)) ma_nil))) (pd_and (pd_not (pd_callB call_ISI (cd_isi rfl) B.b_isinstance (by decide +kernel) (ma_cons (pd_var 0) (ma_cons (pd_ty B.b_bool (by decide +kernel)) ma_nil)))) (pd_one (pd_eq hr.units (pd_var 0) (pd_var 1)))))))
abbrev stall_under : Stmt := topS 12
theorem scall_under : FnScope ["bank", "terms", "found", "left", "term"] ["bank", "terms"] (defScope stall_under) := ⟨rfl, rfl, rfl, by decide +kernel, rfl, by decide +kernel, by decide +kernel⟩
set_option maxHeartbeats 4000000 in
theorem deall_under {P : Program} {w : World} {G : Gm} {mg : Str → Option Value} {base : Heap} {c : Cl} (hW : G.w = w) (B : Bl mg) (T : ClD G mg c) (FBank_node : CalM P w G mg base 3 c.Bank NBank "node" (spBank_node c)) {f : Addr} (cdv : Value) (A : Around) (outer : List Env) (s : Shared) (H : Hp) (E : XK) (hr : Room 3 (A.deeper (envOfC "all_under" (defScope stall_under) s.heap.objs.size f cdv)))  :
    PDSs G E (cxOf CX0 P w G.K mg base ["bank", "terms", "found", "left", "term"] "all_under" (defScope stall_under) f cdv A outer s H E).nox (defBody stall_under) (wall_under c) :=
  (sds_cons (sd_set 2 pd_dic scall_under.nd)
  (sds_cons (sd_set 3 (pd_callTy call_LIST (cd_listH rfl) B.b_list (by decide +kernel) (ma_cons (pd_var 1) ma_nil)) scall_under.nd)
  (sds_cons (sd_while PassesOwn.never (pt_ne hr.units (pd_var 3) (pd_lst ma_nil))
  (sds_cons (sd_set 4 (pd_lm0 PySem.F.slot_list_pop PySem.F.type_list_pop mt_pop md_pop0 (pd_var 3)) scall_under.nd)
  (sds_one (sd_if (pt_nin (hu_of hr) (pd_var 4) (pd_var 2))
  (sds_cons (sd_asg pd_bl (gd_sb (hu_of hr) (pd_var 2) (pd_var 4)))
  (sds_one (sd_expr (pd_lm PySem.F.slot_list_extend PySem.F.type_list_extend mt_EXT (md_extA rfl) (pd_var 3) (ma_cons (pd_ix (hu_of hr) (pd_methC FBank_node (hr.mono (by decide)) (pd_var 0) (ma_cons (pd_var 4) ma_nil)) pd_int) ma_nil)))))
  sds_nil))))
  (sds_one (sd_ret (pd_callB (call_SORTDI rfl) cd_sortK B.b_sorted (by decide +kernel) (ma_cons (pd_var 2) ma_nil)))))))
abbrev stneed_model : Stmt := topS 33
theorem scneed_model : FnScope ["bank", "model", "kinds", "last", "name", "worth"] ["bank", "model"] (defScope stneed_model) := ⟨rfl, rfl, rfl, by decide +kernel, rfl, by decide +kernel, by decide +kernel⟩
set_option maxHeartbeats 4000000 in
theorem deneed_model {P : Program} {w : World} {G : Gm} {mg : Str → Option Value} {base : Heap} {c : Cl} (hW : G.w = w) (B : Bl mg) (T : ClD G mg c) (FBank_names : CalM P w G mg base 1 c.Bank NBank "names" (spBank_names c)) (Fis_worth : Cal P w G mg base 3 "is_worth" (spis_worth c)) {f : Addr} (cdv : Value) (A : Around) (outer : List Env) (s : Shared) (H : Hp) (E : XK) (hr : Room 3 (A.deeper (envOfC "need_model" (defScope stneed_model) s.heap.objs.size f cdv)))  :
    PDSs G E (cxOf CX0 P w G.K mg base ["bank", "model", "kinds", "last", "name", "worth"] "need_model" (defScope stneed_model) f cdv A outer s H E).nox (defBody stneed_model) (wneed_model c) :=
  (sds_cons (sd_set 2 (pd_callTy (call_DICTA rfl) (cd_dictA rfl) B.b_dict (by decide +kernel) (ma_cons (pd_meth0C FBank_names (hr.mono (by decide)) (pd_var 0)) ma_nil)) scneed_model.nd)
  (sds_cons (sd_set 3 pd_str scneed_model.nd)
  (sds_one (sd_for PassesOwn.never (mi_seq (pd_var 1)) (gd_tp (gds_cons (gd_nm 4 scneed_model.nd) (gds_cons (gd_nm 5 scneed_model.nd) gds_nil)))
  (sds_cons (sd_if (pt_w (pw_or (pt_nin (hu_of hr) (pd_var 4) (pd_var 2)) (pw_or (pt_cmp op_LE od_LE (pd_var 4) (pd_var 3)) (pw_or1 (pt_not (pt_val (pd_callC Fis_worth (hr.mono (by decide)) (ma_cons (pd_var 5) (ma_cons (pd_ix (hu_of hr) (pd_var 2) (pd_var 4)) ma_nil)))))))))
  (sds_one sd_never)
  sds_nil)
  (sds_one (sd_set 3 (pd_var 4) scneed_model.nd)))))))
abbrev stworths_under : Stmt := topS 34
theorem scworths_under : FnScope ["bank", "terms", "model", "given", "found", "term", "word", "parts", "marks", "worth", "part"] ["bank", "terms", "model"] (defScope stworths_under) := ⟨rfl, rfl, rfl, by decide +kernel, rfl, by decide +kernel, by decide +kernel⟩
set_option maxHeartbeats 4000000 in
theorem deworths_under {P : Program} {w : World} {G : Gm} {mg : Str → Option Value} {base : Heap} {c : Cl} (hW : G.w = w) (B : Bl mg) (T : ClD G mg c) (Fall_under : Cal P w G mg base 4 "all_under" (spall_under c)) (FBank_node : CalM P w G mg base 3 c.Bank NBank "node" (spBank_node c)) (Fplain_worth : Cal P w G mg base 2 "plain_worth" (spplain_worth c)) (Fworth_by : Cal P w G mg base 4 "worth_by" (spworth_by c)) (FBank_kind : CalM P w G mg base 3 c.Bank NBank "kind" (spBank_kind c)) {f : Addr} (cdv : Value) (A : Around) (outer : List Env) (s : Shared) (H : Hp) (E : XK) (hr : Room 4 (A.deeper (envOfC "worths_under" (defScope stworths_under) s.heap.objs.size f cdv)))  :
    PDSs G E (cxOf CX0 P w G.K mg base ["bank", "terms", "model", "given", "found", "term", "word", "parts", "marks", "worth", "part"] "worths_under" (defScope stworths_under) f cdv A outer s H E).nox (defBody stworths_under) (wworths_under c) :=
  (sds_cons (sd_set 3 (pd_callTy (call_DICTA rfl) (cd_dictA rfl) B.b_dict (by decide +kernel) (ma_cons (pd_var 2) ma_nil)) scworths_under.nd)
  (sds_cons (sd_set 4 pd_dic scworths_under.nd)
  (sds_cons (sd_for PassesOwn.never (mi_seq (pd_callC Fall_under (hr.mono (by decide)) (ma_cons (pd_var 0) (ma_cons (pd_var 1) ma_nil)))) (gd_nm 5 scworths_under.nd)
  (sds_cons (sd_asg (pd_methC FBank_node (hr.mono (by decide)) (pd_var 0) (ma_cons (pd_var 5) ma_nil)) (gd_tp (gds_cons (gd_nm 6 scworths_under.nd) (gds_cons (gd_nm 7 scworths_under.nd) (gds_cons (gd_nm 8 scworths_under.nd) gds_nil)))))
  (sds_one (sd_if (pt_eq hr.units (pd_var 6) pd_str)
  (sds_cons (sd_set 9 (pd_get2 (hu_of hr) (pd_var 3) (pd_ix (hu_of hr) (pd_var 8) pd_int) (pd_callC Fplain_worth (hr.mono (by decide)) (ma_cons (pd_ix (hu_of hr) (pd_var 8) pd_int) ma_nil))) scworths_under.nd)
  (sds_one (sd_asg (pd_if (pt_val (pd_callB call_ISI (cd_isi rfl) B.b_isinstance (by decide +kernel) (ma_cons (pd_var 9) (ma_cons (pd_ty B.b_list (by decide +kernel)) ma_nil)))) (pd_callTy call_TUPLE (cd_tuple rfl) B.b_tuple (by decide +kernel) (ma_cons (pd_var 9) ma_nil)) (pd_var 9)) (gd_sb (hu_of hr) (pd_var 4) (pd_var 5)))))
  (sds_one (sd_asg (pd_callC Fworth_by (hr.mono (by decide)) (ma_cons (pd_var 6) (ma_cons (pd_var 8) (ma_cons (pd_lc [("part", 10)] (blkOk_by (by kernel_rfl)) scworths_under.nd (mi_seq (pd_var 7)) (fun _ _ _ _ _ => (tg_nm 10 scworths_under.nd)) (fun _ _ _ _ _ => ts_nil) (fun _ _ _ _ _ => (pd_methC FBank_kind (hr.mono (by decide)) (pd_var 0) (ma_cons (pd_var 10) ma_nil)))) (ma_cons (pd_lc [("part", 10)] (blkOk_by (by kernel_rfl)) scworths_under.nd (mi_seq (pd_var 7)) (fun _ _ _ _ _ => (tg_nm 10 scworths_under.nd)) (fun _ _ _ _ _ => ts_nil) (fun _ _ _ _ _ => (pd_ix (hu_of hr) (pd_var 4) (pd_var 10)))) ma_nil))))) (gd_sb (hu_of hr) (pd_var 4) (pd_var 5))))))))
  (sds_one (sd_ret (pd_var 4))))))
abbrev stworth_of : Stmt := topS 35
theorem scworth_of : FnScope ["bank", "term", "model"] ["bank", "term", "model"] (defScope stworth_of) := ⟨rfl, rfl, rfl, by decide +kernel, rfl, by decide +kernel, by decide +kernel⟩
set_option maxHeartbeats 4000000 in
theorem deworth_of {P : Program} {w : World} {G : Gm} {mg : Str → Option Value} {base : Heap} {c : Cl} (hW : G.w = w) (B : Bl mg) (T : ClD G mg c) (FBank_kind : CalM P w G mg base 3 c.Bank NBank "kind" (spBank_kind c)) (Fneed_model : Cal P w G mg base 4 "need_model" (spneed_model c)) (Fworths_under : Cal P w G mg base 5 "worths_under" (spworths_under c)) {f : Addr} (cdv : Value) (A : Around) (outer : List Env) (s : Shared) (H : Hp) (E : XK) (hr : Room 5 (A.deeper (envOfC "worth_of" (defScope stworth_of) s.heap.objs.size f cdv)))  :
    PDSs G E (cxOf CX0 P w G.K mg base ["bank", "term", "model"] "worth_of" (defScope stworth_of) f cdv A outer s H E).nox (defBody stworth_of) (wworth_of c) :=
  (sds_cons (sd_expr (pd_methC FBank_kind (hr.mono (by decide)) (pd_var 0) (ma_cons (pd_var 1) ma_nil)))
  (sds_cons (sd_expr (pd_callC Fneed_model (hr.mono (by decide)) (ma_cons (pd_var 0) (ma_cons (pd_var 2) ma_nil))))
  (sds_one (sd_ret (pd_ix (hu_of hr) (pd_callC Fworths_under (hr.mono (by decide)) (ma_cons (pd_var 0) (ma_cons (pd_lst (ma_cons (pd_var 1) ma_nil)) (ma_cons (pd_var 2) ma_nil)))) (pd_var 1))))))
abbrev st_law_cuts : Stmt := topS 70
theorem sc_law_cuts : FnScope ["_law_bank", "_law_term", "_law_bits", "_law_model", "_law_width", "_law_low", "_law_flipped", "_law_high", "_law_one", "_law_due", "_law_bit"] ["_law_bank", "_law_term", "_law_bits", "_law_model"] (defScope st_law_cuts) := ⟨rfl, rfl, rfl, by decide +kernel, rfl, by decide +kernel, by decide +kernel⟩
set_option maxHeartbeats 4000000 in
theorem de_law_cuts {P : Program} {w : World} {G : Gm} {mg : Str → Option Value} {base : Heap} {c : Cl} (hW : G.w = w) (B : Bl mg) (T : ClD G mg c) (FGBank_make_3_0 : CalG P w G mg base 5 c.Bank NBank "make" 3 [] [] [(.tup [])] (spBank_make c)) (FGBank_make_3_1 : CalG P w G mg base 5 c.Bank NBank "make" 3 ["marks"] [] [] (spBank_make c)) (F_law_number : Cal P w G mg base 1 "_law_number" (sp_law_number c)) (FBank_kind : CalM P w G mg base 3 c.Bank NBank "kind" (spBank_kind c)) (F_law_whole : Cal P w G mg base 1 "_law_whole" (sp_law_whole c)) (Fworth_of : Cal P w G mg base 6 "worth_of" (spworth_of c)) {f : Addr} (cdv : Value) (A : Around) (outer : List Env) (s : Shared) (H : Hp) (E : XK) (hr : Room 6 (A.deeper (envOfC "_law_cuts" (defScope st_law_cuts) s.heap.objs.size f cdv)))  :
    PDSs G E (cxOf CX0 P w G.K mg base ["_law_bank", "_law_term", "_law_bits", "_law_model", "_law_width", "_law_low", "_law_flipped", "_law_high", "_law_one", "_law_due", "_law_bit"] "_law_cuts" (defScope st_law_cuts) f cdv A outer s H E).nox (defBody st_law_cuts) (w_law_cuts c) :=
  (sds_cons (sd_set 4 (pd_callB call_LEN (cd_len rfl) B.b_len (by decide +kernel) (ma_cons (pd_var 2) ma_nil)) sc_law_cuts.nd)
  (sds_cons (sd_for PassesOwn.never (mi_r1 B.b_range (ma_cons (pd_var 4) ma_nil)) (gd_nm 5 sc_law_cuts.nd)
  (sds_one (sd_for PassesOwn.never (mi_r2 B.b_range (ma_cons (pd_var 5) (ma_cons (pd_var 4) ma_nil))) (gd_nm 7 sc_law_cuts.nd)
  (sds_cons (sd_set 8 (pd_methG FGBank_make_3_1 (hr.mono (by decide)) (pd_var 0) (ma_cons pd_str (ma_cons (pd_tup (ma_cons (pd_var 1) ma_nil)) ma_nil)) (mk_cons (pd_tup (ma_cons (pd_var 7) (ma_cons (pd_var 5) ma_nil))) mk_nil)) sc_law_cuts.nd)
  (sds_cons (sd_set 9 (pd_callC F_law_number (hr.mono (by decide)) (ma_cons (pd_slA (pd_var 2) (mo_some (pd_op op_sub od_sub (pd_op op_sub od_sub (pd_var 4) pd_int) (pd_var 7))) (mo_some (pd_op op_sub od_sub (pd_var 4) (pd_var 5)))) ma_nil)) sc_law_cuts.nd)
  (sds_one (sd_if (pt_w (pw_or (pt_ne hr.units (pd_methC FBank_kind (hr.mono (by decide)) (pd_var 0) (ma_cons (pd_var 8) ma_nil)) (pd_tup (ma_cons pd_str (ma_cons (pd_op op_ADDT (od_addA rfl) (pd_op op_sub od_sub (pd_var 7) (pd_var 5)) pd_int) ma_nil)))) (pw_or1 (pt_not (pt_val (pd_callC F_law_whole (hr.mono (by decide)) (ma_cons (pd_callC Fworth_of (hr.mono (by decide)) (ma_cons (pd_var 0) (ma_cons (pd_var 8) (ma_cons (pd_var 3) ma_nil)))) (ma_cons (pd_var 9) ma_nil))))))))
  (sds_one (sd_ret pd_bl))
  sds_nil)))))))
  (sds_cons (sd_set 6 (pd_methG FGBank_make_3_0 (hr.mono (by decide)) (pd_var 0) (ma_cons pd_str (ma_cons (pd_tup (ma_cons (pd_var 1) ma_nil)) ma_nil)) mk_nil) sc_law_cuts.nd)
  (sds_one (sd_ret (pd_callC F_law_whole (hr.mono (by decide)) (ma_cons (pd_callC Fworth_of (hr.mono (by decide)) (ma_cons (pd_var 0) (ma_cons (pd_var 6) (ma_cons (pd_var 3) ma_nil)))) (ma_cons (pd_callC F_law_number (hr.mono (by decide)) (ma_cons (pd_lc [("_law_bit", 10)] (blkOk_by (by kernel_rfl)) sc_law_cuts.nd (mi_seq (pd_var 2)) (fun _ _ _ _ _ => (tg_nm 10 sc_law_cuts.nd)) (fun _ _ _ _ _ => ts_nil) (fun _ _ _ _ _ => (pd_op op_sub od_sub pd_int (pd_var 10)))) ma_nil)) ma_nil))))))))
abbrev st_law_chosen : Stmt := topS 71
theorem sc_law_chosen : FnScope ["_law_bank", "_law_term", "_law_other", "_law_numbers", "_law_model", "_law_same", "_law_found", "_law_one", "_law_two"] ["_law_bank", "_law_term", "_law_other", "_law_numbers", "_law_model"] (defScope st_law_chosen) := ⟨rfl, rfl, rfl, by decide +kernel, rfl, by decide +kernel, by decide +kernel⟩
set_option maxHeartbeats 4000000 in
theorem de_law_chosen {P : Program} {w : World} {G : Gm} {mg : Str → Option Value} {base : Heap} {c : Cl} (hW : G.w = w) (B : Bl mg) (T : ClD G mg c) (FGBank_make_3_0 : CalG P w G mg base 5 c.Bank NBank "make" 3 [] [] [(.tup [])] (spBank_make c)) (Fworth_of : Cal P w G mg base 6 "worth_of" (spworth_of c)) (F_law_whole : Cal P w G mg base 1 "_law_whole" (sp_law_whole c)) {f : Addr} (cdv : Value) (A : Around) (outer : List Env) (s : Shared) (H : Hp) (E : XK) (hr : Room 6 (A.deeper (envOfC "_law_chosen" (defScope st_law_chosen) s.heap.objs.size f cdv)))  :
    PDSs G E (cxOf CX0 P w G.K mg base ["_law_bank", "_law_term", "_law_other", "_law_numbers", "_law_model", "_law_same", "_law_found", "_law_one", "_law_two"] "_law_chosen" (defScope st_law_chosen) f cdv A outer s H E).nox (defBody st_law_chosen) (w_law_chosen c) :=
  (sds_cons (sd_set 5 (pd_methG FGBank_make_3_0 (hr.mono (by decide)) (pd_var 0) (ma_cons pd_str (ma_cons (pd_tup (ma_cons (pd_var 1) (ma_cons (pd_var 2) ma_nil))) ma_nil)) mk_nil) sc_law_chosen.nd)
  (sds_cons (sd_set 6 (pd_callC Fworth_of (hr.mono (by decide)) (ma_cons (pd_var 0) (ma_cons (pd_var 5) (ma_cons (pd_var 4) ma_nil)))) sc_law_chosen.nd)
  (sds_cons (sd_if (pt_w (pw_or (pt_not (pt_val (pd_callB call_ISI (cd_isi rfl) B.b_isinstance (by decide +kernel) (ma_cons (pd_var 6) (ma_cons (pd_ty B.b_bool (by decide +kernel)) ma_nil))))) (pw_or1 (pt_ne hr.units (pd_var 6) (pd_eq hr.units (pd_ix (hu_of hr) (pd_var 3) pd_int) (pd_ix (hu_of hr) (pd_var 3) pd_int))))))
  (sds_one (sd_ret pd_bl))
  sds_nil)
  (sds_cons (sd_set 7 (pd_methG FGBank_make_3_0 (hr.mono (by decide)) (pd_var 0) (ma_cons pd_str (ma_cons (pd_tup (ma_cons (pd_var 5) (ma_cons (pd_var 1) (ma_cons (pd_var 2) ma_nil)))) ma_nil)) mk_nil) sc_law_chosen.nd)
  (sds_cons (sd_set 8 (pd_methG FGBank_make_3_0 (hr.mono (by decide)) (pd_var 0) (ma_cons pd_str (ma_cons (pd_tup (ma_cons (pd_methG FGBank_make_3_0 (hr.mono (by decide)) (pd_var 0) (ma_cons pd_str (ma_cons (pd_tup (ma_cons (pd_var 5) ma_nil)) ma_nil)) mk_nil) (ma_cons (pd_var 1) (ma_cons (pd_var 2) ma_nil)))) ma_nil)) mk_nil) sc_law_chosen.nd)
  (sds_one (sd_ret (pd_and (pd_callC F_law_whole (hr.mono (by decide)) (ma_cons (pd_callC Fworth_of (hr.mono (by decide)) (ma_cons (pd_var 0) (ma_cons (pd_var 7) (ma_cons (pd_var 4) ma_nil)))) (ma_cons (pd_ix (hu_of hr) (pd_var 3) pd_int) ma_nil))) (pd_one (pd_callC F_law_whole (hr.mono (by decide)) (ma_cons (pd_callC Fworth_of (hr.mono (by decide)) (ma_cons (pd_var 0) (ma_cons (pd_var 8) (ma_cons (pd_var 4) ma_nil)))) (ma_cons (pd_ix (hu_of hr) (pd_var 3) pd_int) ma_nil))))))))))))
abbrev stlaw : Stmt := topS 72
theorem sclaw : FnScope ["_law_script", "_law_spring_here", "_law_turn", "_law_wide", "_law_narrow", "_law_numbers", "_law_names", "_law_kinds", "_law_bank", "_law_model", "_law_terms", "_law_both", "_law_bits", "_law_pair", "_law_name", "_law_kind"] ["_law_script"] (defScope stlaw) := ⟨rfl, rfl, rfl, by decide +kernel, rfl, by decide +kernel, by decide +kernel⟩
set_option maxHeartbeats 4000000 in
theorem delaw {P : Program} {w : World} {G : Gm} {mg : Str → Option Value} {base : Heap} {c : Cl} (hW : G.w = w) (B : Bl mg) (T : ClD G mg c) (F_law_spring : Cal P w G mg base 1 "_law_spring" (sp_law_spring c)) (F_law_draw : Cal P w G mg base 1 "_law_draw" (sp_law_draw c)) (F_law_words : Cal P w G mg base 2 "_law_words" (sp_law_words c)) (FBank_DinitD : CalI P w G mg base 1 c.Bank "Bank" (spBank_DinitD c)) (FBank_name : CalM P w G mg base 3 c.Bank NBank "name" (spBank_name c)) (FGBank_make_2_1 : CalG P w G mg base 5 c.Bank NBank "make" 2 ["marks"] [(.tup [])] [] (spBank_make c)) (FGBank_make_3_0 : CalG P w G mg base 5 c.Bank NBank "make" 3 [] [] [(.tup [])] (spBank_make c)) (F_law_signs : Cal P w G mg base 1 "_law_signs" (sp_law_signs c)) (F_law_cuts : Cal P w G mg base 7 "_law_cuts" (sp_law_cuts c)) (F_law_chosen : Cal P w G mg base 7 "_law_chosen" (sp_law_chosen c)) {f : Addr} (cdv : Value) (A : Around) (outer : List Env) (s : Shared) (H : Hp) (E : XK) (hr : Room 7 (A.deeper (envOfC "law" (defScope stlaw) s.heap.objs.size f cdv)))  :
    PDSs G E (cxOf CX0 P w G.K mg base ["_law_script", "_law_spring_here", "_law_turn", "_law_wide", "_law_narrow", "_law_numbers", "_law_names", "_law_kinds", "_law_bank", "_law_model", "_law_terms", "_law_both", "_law_bits", "_law_pair", "_law_name", "_law_kind"] "law" (defScope stlaw) f cdv A outer s H E).nox (defBody stlaw) (wlaw c) :=
  (sds_cons (sd_set 1 (pd_callC F_law_spring (hr.mono (by decide)) (ma_cons (pd_var 0) ma_nil)) sclaw.nd)
  (sds_cons (sd_for PassesOwn.never (mi_r1 B.b_range (ma_cons (pd_op op_ADDT (od_addA rfl) pd_int (pd_callB (call_min2 rfl) cd_min2 B.b_min (by decide +kernel) (ma_cons (pd_callB call_LEN (cd_len rfl) B.b_len (by decide +kernel) (ma_cons (pd_var 0) ma_nil)) (ma_cons pd_int ma_nil)))) ma_nil)) (gd_nm 2 sclaw.nd)
  (sds_cons (sd_set 3 (pd_op op_ADDT (od_addA rfl) pd_int (pd_callC F_law_draw (hr.mono (by decide)) (ma_cons (pd_var 1) (ma_cons pd_int ma_nil)))) sclaw.nd)
  (sds_cons (sd_set 4 (pd_op op_ADDT (od_addA rfl) pd_int (pd_callC F_law_draw (hr.mono (by decide)) (ma_cons (pd_var 1) (ma_cons (pd_op op_sub od_sub pd_int (pd_var 3)) ma_nil)))) sclaw.nd)
  (sds_cons (sd_set 5 (pd_lst (ma_cons (pd_callC F_law_draw (hr.mono (by decide)) (ma_cons (pd_var 1) (ma_cons (pd_op op_shl od_shl pd_int (pd_var 3)) ma_nil))) (ma_cons (pd_callC F_law_draw (hr.mono (by decide)) (ma_cons (pd_var 1) (ma_cons (pd_op op_shl od_shl pd_int (pd_var 4)) ma_nil))) (ma_cons (pd_callC F_law_draw (hr.mono (by decide)) (ma_cons (pd_var 1) (ma_cons (pd_op op_shl od_shl pd_int (pd_var 3)) ma_nil))) ma_nil)))) sclaw.nd)
  (sds_cons (sd_set 6 (pd_callC F_law_words (hr.mono (by decide)) (ma_cons (pd_var 1) (ma_cons pd_int ma_nil))) sclaw.nd)
  (sds_cons (sd_set 7 (pd_lst (ma_cons (pd_tup (ma_cons pd_str (ma_cons (pd_var 3) ma_nil))) (ma_cons (pd_tup (ma_cons pd_str (ma_cons (pd_var 4) ma_nil))) (ma_cons (pd_tup (ma_cons pd_str (ma_cons (pd_var 3) ma_nil))) ma_nil)))) sclaw.nd)
  (sds_cons (sd_set 8 (pd_make0C FBank_DinitD (hr.mono (by decide))) sclaw.nd)
  (sds_cons (sd_set 9 (pd_callB cr_sortPS (cd_sortP rfl) B.b_sorted (by decide +kernel) (ma_cons (pd_lc [("_law_pair", 13)] (blkOk_by (by kernel_rfl)) sclaw.nd (mi_zipN B.b_zip (ma_cons (pd_var 6) (ma_cons (pd_var 5) ma_nil))) (fun _ _ _ _ _ => (tg_nm 13 sclaw.nd)) (fun _ _ _ _ _ => ts_nil) (fun _ _ _ _ _ => (pd_var 13))) ma_nil)) sclaw.nd)
  (sds_cons (sd_setLcH 10 [("_law_name", 14), ("_law_kind", 15)] (blkOk_by (by kernel_rfl)) sclaw.nd (mi_zipA B.b_zip (ma_cons (pd_var 6) (ma_cons (pd_var 7) ma_nil))) (fun _ _ _ _ _ => (tg_tp (tgs_cons (tg_nm 14 sclaw.nd) (tgs_cons (tg_nm 15 sclaw.nd) tgs_nil)))) (fun _ _ _ _ _ => ts_nil) (fun _ _ _ _ _ => (pd_methC FBank_name (hr.mono (by decide)) (pd_var 8) (ma_cons (pd_var 14) (ma_cons (pd_var 15) ma_nil)))))
  (sds_cons (sd_if (pt_eq hr.units (pd_callC F_law_draw (hr.mono (by decide)) (ma_cons (pd_var 1) (ma_cons pd_int ma_nil))) pd_int)
  (sds_one (sd_asg (pd_methG FGBank_make_2_1 (hr.mono (by decide)) (pd_var 8) (ma_cons pd_str ma_nil) (mk_cons (pd_tup (ma_cons (pd_var 4) (ma_cons (pd_ix (hu_of hr) (pd_var 5) pd_int) ma_nil))) mk_nil)) (gd_sb (hu_of hr) (pd_var 10) pd_int)))
  sds_nil)
  (sds_cons (sd_set 11 (pd_methG FGBank_make_3_0 (hr.mono (by decide)) (pd_var 8) (ma_cons pd_str (ma_cons (pd_tup (ma_cons (pd_ix (hu_of hr) (pd_var 10) pd_int) (ma_cons (pd_ix (hu_of hr) (pd_var 10) pd_int) ma_nil))) ma_nil)) mk_nil) sclaw.nd)
  (sds_cons (sd_set 12 (pd_lst (ma_cons (pd_callC F_law_signs (hr.mono (by decide)) (ma_cons (pd_ix (hu_of hr) (pd_var 5) pd_int) (ma_cons (pd_var 3) ma_nil))) (ma_cons (pd_callC F_law_signs (hr.mono (by decide)) (ma_cons (pd_ix (hu_of hr) (pd_var 5) pd_int) (ma_cons (pd_var 4) ma_nil))) ma_nil))) sclaw.nd)
  (sds_cons (sd_if (pt_w (pw_or (pt_not (pt_val (pd_callC F_law_cuts (hr.mono (by decide)) (ma_cons (pd_var 8) (ma_cons (pd_ix (hu_of hr) (pd_var 10) pd_int) (ma_cons (pd_ix (hu_of hr) (pd_var 12) pd_int) (ma_cons (pd_var 9) ma_nil))))))) (pw_or1 (pt_not (pt_val (pd_callC F_law_cuts (hr.mono (by decide)) (ma_cons (pd_var 8) (ma_cons (pd_ix (hu_of hr) (pd_var 10) pd_int) (ma_cons (pd_ix (hu_of hr) (pd_var 12) pd_int) (ma_cons (pd_var 9) ma_nil))))))))))
  (sds_one (sd_ret pd_bl))
  sds_nil)
  (sds_cons (sd_if (pt_not (pt_val (pd_callC F_law_cuts (hr.mono (by decide)) (ma_cons (pd_var 8) (ma_cons (pd_var 11) (ma_cons (pd_op op_ADDT (od_addA rfl) (pd_ix (hu_of hr) (pd_var 12) pd_int) (pd_ix (hu_of hr) (pd_var 12) pd_int)) (ma_cons (pd_var 9) ma_nil)))))))
  (sds_one (sd_ret pd_bl))
  sds_nil)
  (sds_one (sd_if (pt_not (pt_val (pd_callC F_law_chosen (hr.mono (by decide)) (ma_cons (pd_var 8) (ma_cons (pd_ix (hu_of hr) (pd_var 10) pd_int) (ma_cons (pd_ix (hu_of hr) (pd_var 10) pd_int) (ma_cons (pd_lst (ma_cons (pd_ix (hu_of hr) (pd_var 5) pd_int) (ma_cons (pd_ix (hu_of hr) (pd_var 5) pd_int) ma_nil))) (ma_cons (pd_var 9) ma_nil))))))))
  (sds_one (sd_ret pd_bl))
  sds_nil))))))))))))))))
  (sds_one (sd_ret pd_bl))))
end DL
namespace DL
set_option maxHeartbeats 2000000
open PySem PySem.Spec PyProof.Rows L2

local macro_rules | `(tactic| walk_at "s1") => `(tactic| first
  | with_reducible refine sSeq_i ?_
  | with_reducible refine mVar_i rfl ?_
  | with_reducible refine mC_i ?_
  | with_reducible refine maCons_i ?_
  | with_reducible refine maNil_i ?_
  | with_reducible refine mOp_i ?_
  | with_reducible refine mTest_i ?_
  | with_reducible refine sIf_i ?_
  | with_reducible refine sAs_i ?_
  | with_reducible refine gNm_i (by dsimp only [List.set_cons_zero, List.set_cons_succ, List.set_nil] <;> rfl) ?_
  | with_reducible refine tnm_i (by dsimp only [wipeD, List.set_cons_zero, List.set_cons_succ, List.set_nil] <;> rfl) ?_
  | with_reducible refine ttp_i rfl ?_
  | with_reducible refine ttc_i ?_
  | with_reducible refine ttn_i ?_
  | with_reducible refine mCall_i ?_
  | with_reducible refine mCa_i ?_
  | with_reducible refine onB_i ?_
  | with_reducible refine onI_i ?_
  | with_reducible refine onS_i ?_
  | with_reducible refine sRt_i ?_
  | with_reducible refine sEx_i ?_
  | with_reducible refine sNx_i ?_
  | with_reducible refine sRtN_i ?_
  | with_reducible refine sBk_i ?_
  | with_reducible refine sCt_i ?_
  | with_reducible refine sFor_i ?_
  | with_reducible refine sAug_i rfl ?_
  | with_reducible refine sSetFld_i ?_
  | with_reducible refine sAugFld_i ?_
  | with_reducible refine gTp_i rfl ?_
  | with_reducible refine gsCons_i ?_
  | with_reducible refine gsNil_i ?_
  | with_reducible refine gSb_i ?_
  | with_reducible refine mUn_i ?_
  | with_reducible refine mAnd_i ?_
  | with_reducible refine mOr_i ?_
  | with_reducible refine mNot_i ?_
  | with_reducible refine mAndV_i ?_
  | with_reducible refine mOrV_i ?_
  | with_reducible refine mNotV_i ?_
  | with_reducible refine mIf_i ?_
  | with_reducible refine mYes_i ?_
  | with_reducible refine mLst_i ?_
  | with_reducible refine mTup_i ?_
  | with_reducible refine mLstH_i ?_
  | with_reducible refine mDic_i ?_
  | with_reducible refine mMeth_i ?_
  | with_reducible refine mMeth0_i ?_
  | with_reducible refine mMake_i ?_
  | with_reducible refine mFld_i ?_
  | with_reducible refine mMe_i ?_
  | with_reducible refine mMe0_i ?_
  | with_reducible refine mGet1_i ?_
  | with_reducible refine mGet2_i ?_
  | with_reducible refine mSetd_i ?_
  | with_reducible refine mDPop1_i ?_
  | with_reducible refine mSl_i ?_
  | with_reducible refine mSlH_i ?_
  | with_reducible refine mSlStep_i ?_
  | with_reducible refine moNone_i ?_
  | with_reducible refine moSome_i ?_
  | with_reducible refine mLenSet_i ?_
  | with_reducible refine mLc_i ?_
  | with_reducible refine mLcH_i ?_
  | with_reducible refine miSeq_i ?_
  | with_reducible refine miR1_i ?_
  | with_reducible refine miR2_i ?_
  | with_reducible refine miR3n_i ?_
  | with_reducible refine dIt_l ?_
  | with_reducible refine dIt_s ?_
  | with_reducible refine dIt_t ?_
  | with_reducible refine dII0_i ?_
  | with_reducible refine dAdd_i ?_
  | with_reducible refine dNeg_i ?_
  | with_reducible refine dEQ_i ?_
  | with_reducible refine dEQ_b ?_
  | with_reducible refine dIsN_i ?_
  | with_reducible refine dNotN_i ?_
  | with_reducible refine dLen_l ?_
  | with_reducible refine dLen_s ?_
  | with_reducible refine dLen_t ?_
  | with_reducible refine dInt_i ?_
  | with_reducible refine dInt_b ?_
  | with_reducible refine dII1_i ?_
  | with_reducible refine dList_l ?_
  | with_reducible refine dList_s ?_
  | with_reducible refine dList_t ?_
  | with_reducible refine dListH_l ?_
  | with_reducible refine dListH_s ?_
  | with_reducible refine dListH_t ?_
  | with_reducible refine dTuple_l ?_
  | with_reducible refine dTuple_t ?_
  | with_reducible refine dIsB_b ?_
  | with_reducible refine dIsB_n ?_
  | with_reducible refine dNotB_b ?_
  | with_reducible refine dNotB_n ?_
  | with_reducible refine mChn_i ?_
  | with_reducible refine mSlA_i ?_
  | with_reducible refine mJoin_i ?_
  | with_reducible refine mMethG_i ?_
  | with_reducible refine miKF_i ?_
  | with_reducible refine miZipA_i ?_
  | with_reducible refine mDisp_i ?_
  | with_reducible refine mPrs_n ?_
  | with_reducible refine mPrs_c ?_
  | with_reducible refine gSbN_i ?_
  | with_reducible refine mDicN_i ?_
  | with_reducible refine miStr_i ?_
  | with_reducible refine dLE_i ?_
  | with_reducible refine dLE_s ?_
  | with_reducible refine dAddA_i ?_
  | with_reducible refine dEQ_s ?_
  | with_reducible refine dInKD_i ?_
  | with_reducible refine dSlA_l ?_
  | with_reducible refine dSlA_r ?_
  | with_reducible refine dSlA_t ?_
  | with_reducible refine And.intro (szN rfl) ?_
  | with_reducible refine ifT rfl ?_
  | with_reducible refine ifF rfl ?_)
local macro_rules | `(tactic| walk_at "s") => `(tactic| repeat walk_at "s1")

abbrev EndsOf (R : DQ) (xq : XQ) : DEnds := ⟨fun _ st' => R .non st', R, fun _ _ => False, fun _ _ => False, xq⟩
theorem cmx {i j : Int} (h1 : -(2 ^ 200) < i) (h2 : i < 2 ^ 200) (h3 : -(2 ^ 200) < j) (h4 : j < 2 ^ 200) : CMulX i j :=
  mulx_ok (a := 200) (b := 200) (by omega) (by omega) (by omega)
theorem cdw {i j : Int} (h1 : 0 < j) (h2 : j < 2 ^ 200) : CDivW i j := wide_div (b := 200) h1 (by omega) (by omega) (by omega)
theorem getElem?_set_same {α : Type} {l : List α} {i : Nat} {a : α} (h : l[i]? = some a) (b : α) : (l.set i b)[i]? = some b := List.getElem?_set_self (List.getElem?_eq_some_iff.mp h).1
theorem cpw {n : Nat} (h : n ≤ 1000) : CPow 1 (n : Int) := ⟨by omega, by omega, by decide⟩
/-! ### small ones -/
theorem sem_two_to (c : Cl) : ∀ ds st R xq, sptwo_to c ds st R xq → wtwo_to c (EndsOf R xq) (startD ["bits"] ds) st := by
  rintro ds st R xq ⟨n, rfl, h, k⟩
  show wtwo_to c ⟨_, _, _, _, _⟩ [some (.int n)] st
  unfold wtwo_to
  walk_at "s"
  refine dII_i (cpw h) ?_
  rw [Int.toNat_natCast, Int.one_mul]
  exact k
theorem sem_as_signed (c : Cl) : ∀ ds st R xq, spas_signed c ds st R xq → was_signed c (EndsOf R xq) (startD ["width", "number"] ds) st := by
  rintro ds st R xq ⟨n, x, rfl, h1, h2, k⟩
  show was_signed c ⟨_, _, _, _, _⟩ [some (.int n), some (.int x)] st
  unfold was_signed
  walk_at "s"
  refine ⟨n - 1, ?_, by omega, ?_⟩
  · have : ((n - 1 : Nat) : Int) = (n : Int) - 1 := by omega
    rw [this]
  unfold asSg at k
  by_cases q : (2 : Int) ^ (n - 1) ≤ x
  · rw [if_pos q] at k
    walk_at "s"
    refine ifT (by simpa using q) ?_
    walk_at "s"
    exact ⟨n, rfl, by omega, by walk_at "s"; exact k⟩
  · rw [if_neg q] at k
    walk_at "s"
    refine ifF (by simpa using q) ?_
    walk_at "s"
    exact k
theorem pow8 {n : Nat} (h1 : 1 ≤ n) (h2 : n ≤ 8) : n = 1 ∨ n = 2 ∨ n = 3 ∨ n = 4 ∨ n = 5 ∨ n = 6 ∨ n = 7 ∨ n = 8 := by omega
theorem pow_le {n : Nat} (h2 : n ≤ 8) : (2 : Int) ^ n ≤ 256 := by
  have : n = 0 ∨ n = 1 ∨ n = 2 ∨ n = 3 ∨ n = 4 ∨ n = 5 ∨ n = 6 ∨ n = 7 ∨ n = 8 := by omega
  rcases this with rfl | rfl | rfl | rfl | rfl | rfl | rfl | rfl | rfl <;> decide
theorem pow_pos2 (n : Nat) : (0 : Int) < 2 ^ n := Int.pow_pos (by decide)
theorem sem_div_of (c : Cl) : ∀ ds st R xq, spdiv_of c ds st R xq → wdiv_of c (EndsOf R xq) (startD ["width", "one", "other"] ds) st := by
  rintro ds st R xq ⟨n, x, y, rfl, h1, h2, x0, x1, y0, y1, k⟩
  show wdiv_of c ⟨_, _, _, _, _⟩ [some (.int n), some (.int x), some (.int y)] st
  have hp := pow_le h2
  unfold wdiv_of
  unfold pDiv at k
  walk_at "s"
  by_cases q : y = 0
  · rw [if_pos q] at k
    refine ifT (by simpa [xorB] using q) ?_
    walk_at "s"
    exact ⟨n, rfl, by omega, by walk_at "s"; exact k⟩
  · rw [if_neg q] at k
    refine ifF (by simpa [xorB] using q) ?_
    walk_at "s"
    exact dII_i (cdw (by omega) (by omega)) k
theorem sem_rest_of (c : Cl) : ∀ ds st R xq, sprest_of c ds st R xq → wrest_of c (EndsOf R xq) (startD ["width", "one", "other"] ds) st := by
  rintro ds st R xq ⟨n, x, y, rfl, h1, h2, x0, x1, y0, y1, k⟩
  show wrest_of c ⟨_, _, _, _, _⟩ [some (.int n), some (.int x), some (.int y)] st
  unfold wrest_of
  unfold pRest at k
  walk_at "s"
  by_cases q : y = 0
  · rw [if_pos q] at k
    refine ifT (by simpa [xorB] using q) ?_
    walk_at "s"
    exact k
  · rw [if_neg q] at k
    refine ifF (by simpa [xorB] using q) ?_
    walk_at "s"
    exact dII_i (by omega) k
theorem nat_abs64 {x : Int} {n : Nat} (h2 : n ≤ 8) (x0 : 0 ≤ x) (x1 : x < 2 ^ n) : x.natAbs < 2 ^ 64 ∧ x ≤ 1000000 := by
  have hp := pow_le h2
  constructor <;> omega
theorem sem_shl_of (c : Cl) : ∀ ds st R xq, spshl_of c ds st R xq → wshl_of c (EndsOf R xq) (startD ["width", "one", "other"] ds) st := by
  rintro ds st R xq ⟨n, x, y, rfl, h1, h2, x0, x1, y0, y1, k⟩
  show wshl_of c ⟨_, _, _, _, _⟩ [some (.int n), some (.int x), some (.int y)] st
  unfold wshl_of
  walk_at "s"
  refine dII_i ⟨y0, (nat_abs64 h2 y0 y1).2, (nat_abs64 h2 x0 x1).1⟩ ?_
  walk_at "s"
  exact ⟨n, rfl, by omega, dII_i (pow_pos2 n) k⟩
theorem sem_shr_of (c : Cl) : ∀ ds st R xq, spshr_of c ds st R xq → wshr_of c (EndsOf R xq) (startD ["width", "one", "other"] ds) st := by
  rintro ds st R xq ⟨n, x, y, rfl, h1, h2, x0, x1, y0, y1, k⟩
  show wshr_of c ⟨_, _, _, _, _⟩ [some (.int n), some (.int x), some (.int y)] st
  unfold wshr_of
  walk_at "s"
  exact dII_i y0 k
theorem sem_sar_of (c : Cl) : ∀ ds st R xq, spsar_of c ds st R xq → wsar_of c (EndsOf R xq) (startD ["width", "one", "other"] ds) st := by
  rintro ds st R xq ⟨n, x, y, rfl, h1, h2, x0, x1, y0, y1, k⟩
  show wsar_of c ⟨_, _, _, _, _⟩ [some (.int n), some (.int x), some (.int y)] st
  unfold wsar_of
  walk_at "s"
  refine ⟨n, x, rfl, h1, h2, ?_⟩
  walk_at "s"
  refine dII_i y0 ?_
  walk_at "s"
  exact ⟨n, rfl, by omega, dII_i (pow_pos2 n) k⟩
theorem sem_band_of (c : Cl) : ∀ ds st R xq, spband_of c ds st R xq → wband_of c (EndsOf R xq) (startD ["width", "one", "other"] ds) st := by
  rintro ds st R xq ⟨n, x, y, rfl, h1, h2, x0, x1, y0, y1, k⟩
  show wband_of c ⟨_, _, _, _, _⟩ [some (.int n), some (.int x), some (.int y)] st
  unfold wband_of
  walk_at "s"
  exact k
theorem sem_bor_of (c : Cl) : ∀ ds st R xq, spbor_of c ds st R xq → wbor_of c (EndsOf R xq) (startD ["width", "one", "other"] ds) st := by
  rintro ds st R xq ⟨n, x, y, rfl, h1, h2, x0, x1, y0, y1, k⟩
  show wbor_of c ⟨_, _, _, _, _⟩ [some (.int n), some (.int x), some (.int y)] st
  unfold wbor_of
  walk_at "s"
  exact k
theorem sem_bxor_of (c : Cl) : ∀ ds st R xq, spbxor_of c ds st R xq → wbxor_of c (EndsOf R xq) (startD ["width", "one", "other"] ds) st := by
  rintro ds st R xq ⟨n, x, y, rfl, h1, h2, x0, x1, y0, y1, k⟩
  show wbxor_of c ⟨_, _, _, _, _⟩ [some (.int n), some (.int x), some (.int y)] st
  unfold wbxor_of
  walk_at "s"
  exact k
theorem sem_add_of (c : Cl) : ∀ ds st R xq, spadd_of c ds st R xq → wadd_of c (EndsOf R xq) (startD ["width", "one", "other"] ds) st := by
  rintro ds st R xq ⟨n, x, y, rfl, h1, h2, x0, x1, y0, y1, k⟩
  show wadd_of c ⟨_, _, _, _, _⟩ [some (.int n), some (.int x), some (.int y)] st
  unfold wadd_of
  walk_at "s"
  exact ⟨n, rfl, by omega, dII_i (pow_pos2 n) k⟩
theorem sem_sub_of (c : Cl) : ∀ ds st R xq, spsub_of c ds st R xq → wsub_of c (EndsOf R xq) (startD ["width", "one", "other"] ds) st := by
  rintro ds st R xq ⟨n, x, y, rfl, h1, h2, x0, x1, y0, y1, k⟩
  show wsub_of c ⟨_, _, _, _, _⟩ [some (.int n), some (.int x), some (.int y)] st
  unfold wsub_of
  walk_at "s"
  exact ⟨n, rfl, by omega, dII_i (pow_pos2 n) k⟩
theorem sem_mul_of (c : Cl) : ∀ ds st R xq, spmul_of c ds st R xq → wmul_of c (EndsOf R xq) (startD ["width", "one", "other"] ds) st := by
  rintro ds st R xq ⟨n, x, y, rfl, h1, h2, x0, x1, y0, y1, k⟩
  show wmul_of c ⟨_, _, _, _, _⟩ [some (.int n), some (.int x), some (.int y)] st
  have hp := pow_le h2
  unfold wmul_of
  walk_at "s"
  refine dMulA_i (cmx (by omega) (by omega) (by omega) (by omega)) ?_
  walk_at "s"
  exact ⟨n, rfl, by omega, dII_i (pow_pos2 n) k⟩
theorem sem_less_of (c : Cl) : ∀ ds st R xq, spless_of c ds st R xq → wless_of c (EndsOf R xq) (startD ["width", "one", "other"] ds) st := by
  rintro ds st R xq ⟨n, x, y, rfl, h1, h2, x0, x1, y0, y1, k⟩
  show wless_of c ⟨_, _, _, _, _⟩ [some (.int n), some (.int x), some (.int y)] st
  unfold wless_of
  walk_at "s"
  exact k
theorem sem_sless_of (c : Cl) : ∀ ds st R xq, spsless_of c ds st R xq → wsless_of c (EndsOf R xq) (startD ["width", "one", "other"] ds) st := by
  rintro ds st R xq ⟨n, x, y, rfl, h1, h2, x0, x1, y0, y1, k⟩
  show wsless_of c ⟨_, _, _, _, _⟩ [some (.int n), some (.int x), some (.int y)] st
  unfold wsless_of
  walk_at "s"
  refine ⟨n, x, rfl, h1, h2, ?_⟩
  walk_at "s"
  exact ⟨n, y, rfl, h1, h2, by walk_at "s"; exact k⟩

/-! ### == of kinds, of flat rows -/
def Kd.ps : Kd → List PyData
  | .truth => [.str "truth"]
  | .word n => [.str "word", .int n]
  | .arr p n => [.str "array", .int p, .int n]
def Kd.py (k : Kd) : PyData := .tuple k.ps
theorem kd_py (k : Kd) : pyD k.d = some k.py := by cases k <;> rfl
theorem kd_pys : ∀ ks : List Kd, pyDs (ks.map Kd.d) = some (ks.map Kd.py)
  | [] => rfl
  | k :: ks => by simp only [List.map_cons, pyDs, kd_py, kd_pys ks]
theorem kd_lay (k : Kd) : k.py.canLay0 = true := by cases k <;> simp [Kd.py, Kd.ps, PyData.canLay0, PyData.canLayAll0] <;> decide +kernel
theorem kd_dep (k : Kd) : k.py.depth = 1 := by
  cases k <;> simp [Kd.py, Kd.ps, PyData.depth, PyData.depthAll]
theorem kd_lays : ∀ ks : List Kd, PyData.canLayAll0 (ks.map Kd.py) = true
  | [] => rfl
  | k :: ks => by simp only [List.map_cons, PyData.canLayAll0, kd_lay, kd_lays ks, Bool.and_self]
theorem kd_deps : ∀ ks : List Kd, PyData.depthAll (ks.map Kd.py) ≤ 1
  | [] => by simp [PyData.depthAll]
  | k :: ks => by
    simp only [List.map_cons, PyData.depthAll, kd_dep]
    have := kd_deps ks
    omega
theorem kd_shaped (k : Kd) : SeqAt.shaped k.py = true := by
  unfold SeqAt.shaped
  rw [kd_lay, kd_dep]; rfl
theorem kds_shaped (ks : List Kd) : SeqAt.shaped (.list (ks.map Kd.py)) = true := by
  unfold SeqAt.shaped
  have h1 : PyData.canLay0 (.list (ks.map Kd.py)) = true := by simp only [PyData.canLay0]; exact kd_lays ks
  have h2 : PyData.depth (.list (ks.map Kd.py)) ≤ 64 := by
    simp only [PyData.depth]
    have := kd_deps ks
    omega
  rw [h1, decide_eq_true h2]; rfl
theorem kd_eqv (a b : Kd) : PyData.eqv a.py b.py = decide (a = b) := by
  cases a with
  | truth => cases b <;> simp [Kd.py, Kd.ps, PyData.eqv, PyData.eqvAll] <;> decide
  | word n =>
    cases b with
    | truth => simp [Kd.py, Kd.ps, PyData.eqv, PyData.eqvAll]
    | word m => by_cases e : n = m <;> simp [Kd.py, Kd.ps, PyData.eqv, PyData.eqvAll, e] <;> omega
    | arr p m => simp [Kd.py, Kd.ps, PyData.eqv, PyData.eqvAll]
  | arr p n =>
    cases b with
    | truth => simp [Kd.py, Kd.ps, PyData.eqv, PyData.eqvAll]
    | word m => simp [Kd.py, Kd.ps, PyData.eqv, PyData.eqvAll]
    | arr q m =>
      by_cases e : p = q
      · by_cases e2 : n = m
        · subst e e2; simp [Kd.py, Kd.ps, PyData.eqv, PyData.eqvAll]
        · subst e; simp [Kd.py, Kd.ps, PyData.eqv, PyData.eqvAll, e2]; omega
      · simp [Kd.py, Kd.ps, PyData.eqv, PyData.eqvAll, e]; omega
theorem kds_eqv : ∀ as bs : List Kd, PyData.eqvAll (as.map Kd.py) (bs.map Kd.py) = decide (as = bs)
  | [], [] => rfl
  | [], _ :: _ => by simp [PyData.eqvAll]
  | _ :: _, [] => by simp [PyData.eqvAll]
  | a :: as, b :: bs => by
    simp only [List.map_cons, PyData.eqvAll, kd_eqv, kds_eqv as bs]
    by_cases e : a = b <;> by_cases e2 : as = bs <;> simp [e, e2]
section
variable {n : Bool} {st : Sto} {R : DQ}
theorem dEQ_kd {a b : Kd} (h : R (.bl (xorB n (decide (a = b)))) st) : dEQ n a.d b.d st R :=
  dEQ_p (kd_py a) (kd_py b) (kd_shaped a) (kd_shaped b) (by rw [kd_eqv]; exact h)
theorem dEQ_kds {as bs : List Kd} (h : R (.bl (xorB n (decide (as = bs)))) st) : dEQ n (.lst (as.map Kd.d)) (.lst (bs.map Kd.d)) st R :=
  dEQ_p (p := .list (as.map Kd.py)) (q := .list (bs.map Kd.py)) (by simp only [pyD, kd_pys, Option.map_some]) (by simp only [pyD, kd_pys, Option.map_some]) (kds_shaped as) (kds_shaped bs) (by
    have : PyData.eqv (.list (as.map Kd.py)) (.list (bs.map Kd.py)) = decide (as = bs) := by simp only [PyData.eqv]; exact kds_eqv as bs
    rw [this]; exact h)
/-- a flat row and () -/
theorem dEQ_nil {ms : List D} (hf' : ms.all flatM = true) (h : R (.bl (xorB n ms.isEmpty)) st) : dEQ n (.tup ms) (.tup []) st R := by
  have hf : ms.all flatD = true := by
    rw [List.all_eq_true] at hf' ⊢
    intro x hx
    have := hf' x hx
    cases x <;> first | rfl | (simp [flatM] at this)
  have hs : ms.all (fun d => match d with | .str x => PyData.strOk x | _ => true) = true := by
    rw [List.all_eq_true] at hf' ⊢
    intro x hx
    have := hf' x hx
    cases x <;> first | rfl | (simp [flatM] at this)
  have key : ∀ ms : List D, ms.all flatD = true → ms.all (fun d => match d with | .str x => PyData.strOk x | _ => true) = true → ∃ ps, pyDs ms = some ps ∧ PyData.canLayAll0 ps = true ∧ PyData.depthAll ps = 0 ∧ ps.isEmpty = ms.isEmpty := by
    intro ms
    induction ms with
    | nil => intro _ _; exact ⟨[], rfl, rfl, rfl, rfl⟩
    | cons m ms ih =>
      intro hf hs
      simp only [List.all_cons, Bool.and_eq_true] at hf hs
      obtain ⟨ps, e1, e2, e3, _⟩ := ih hf.2 hs.2
      obtain ⟨hm, _⟩ := hf
      obtain ⟨hx, _⟩ := hs
      cases m with
      | non => exact ⟨.none :: ps, by simp [pyDs, pyD, e1], by simp [PyData.canLayAll0, PyData.canLay0, e2], by simp [PyData.depthAll, PyData.depth, e3], rfl⟩
      | bl b => exact ⟨.bool b :: ps, by simp [pyDs, pyD, e1], by simp [PyData.canLayAll0, PyData.canLay0, e2], by simp [PyData.depthAll, PyData.depth, e3], rfl⟩
      | int b => exact ⟨.int b :: ps, by simp [pyDs, pyD, e1], by simp [PyData.canLayAll0, PyData.canLay0, e2], by simp [PyData.depthAll, PyData.depth, e3], rfl⟩
      | str b => exact ⟨.str b :: ps, by simp [pyDs, pyD, e1], by simp [PyData.canLayAll0, PyData.canLay0, e2]; exact hx, by simp [PyData.depthAll, PyData.depth, e3], rfl⟩
      | lst _ => simp at hm
      | tup _ => simp at hm
      | scr _ => simp at hm
      | hdl _ => simp at hm
      | raw _ => simp at hm
      | exc _ => simp at hm
  obtain ⟨ps, e1, e2, e3, e4⟩ := key ms hf hs
  refine dEQ_p (p := .tuple ps) (q := .tuple []) (by simp only [pyD, e1, Option.map_some]) rfl ?_ rfl ?_
  · unfold SeqAt.shaped
    have h1 : PyData.canLay0 (.tuple ps) = true := by simp only [PyData.canLay0]; exact e2
    have h2 : PyData.depth (.tuple ps) ≤ 64 := by simp only [PyData.depth, e3]; omega
    rw [h1, decide_eq_true h2]; rfl
  · have : PyData.eqv (.tuple ps) (.tuple []) = ms.isEmpty := by
      rw [← e4]
      cases ps <;> simp [PyData.eqv, PyData.eqvAll]
    rw [this]; exact h
end
/-! ### whole numbers -/
theorem sem_is_whole (c : Cl) : ∀ ds st R xq, spis_whole c ds st R xq → wis_whole c (EndsOf R xq) (startD ["thing", "least", "most"] ds) st := by
  rintro ds st R xq ⟨d, a, b, rfl, ht, k⟩
  show wis_whole c ⟨_, _, _, _, _⟩ [some d, some (.int a), some (.int b)] st
  unfold wis_whole
  walk_at "s"
  obtain ⟨t, e⟩ := Option.isSome_iff_exists.mp ht
  have off : ∀ {t : String}, tyD st d = some t → (kitB t "int" = some false) → isW d a b = false → R (.bl false) st := by
    intro t _ _ h2
    rw [h2] at k; exact k
  cases d with
  | int i =>
    refine ⟨"int", true, rfl, rfl, ?_⟩
    walk_at "s"
    refine ⟨"int", false, rfl, rfl, ?_⟩
    walk_at "s"
    rw [show isW (.int i) a b = (decide (a ≤ i) && decide (i ≤ b)) from rfl] at k
    by_cases q : a ≤ i
    · refine ifT (by simpa using q) ?_
      walk_at "s"
      rw [decide_eq_true q, Bool.true_and] at k
      exact k
    · refine ifF (by simpa using q) ?_
      rw [decide_eq_false q, Bool.false_and] at k
      exact k
  | bl i =>
    refine ⟨"bool", true, rfl, rfl, ?_⟩
    walk_at "s"
    refine ⟨"bool", true, rfl, rfl, ?_⟩
    walk_at "s"
    exact k
  | non => exact ⟨"NoneType", false, rfl, rfl, by walk_at "s"; exact k⟩
  | str _ => exact ⟨"str", false, rfl, rfl, by walk_at "s"; exact k⟩
  | lst _ => exact ⟨"list", false, rfl, rfl, by walk_at "s"; exact k⟩
  | scr _ => exact ⟨"list", false, rfl, rfl, by walk_at "s"; exact k⟩
  | tup _ => exact ⟨"tuple", false, rfl, rfl, by walk_at "s"; exact k⟩
  | hdl j =>
    have e2 := e
    simp only [tyD] at e2
    split at e2
    · cases e2; exact ⟨"list", false, e, rfl, by walk_at "s"; exact k⟩
    · cases e2; exact ⟨"dict", false, e, rfl, by walk_at "s"; exact k⟩
    · cases e2
  | raw _ => simp [tyD] at e
  | exc _ => simp [tyD] at e

/-! ### the rules -/
theorem at0 {x : D} {xs : List D} : atI (x :: xs) 0 = some x := by simp [atI, ixN]
theorem at1 {x y : D} {xs : List D} : atI (x :: y :: xs) 1 = some y := by
  have : (1 : Int) < (xs.length : Int) + 1 + 1 := by omega
  simp [atI, ixN, this]
theorem at2 {x y z : D} {xs : List D} : atI (x :: y :: z :: xs) 2 = some z := by
  have : (2 : Int) < (xs.length : Int) + 1 + 1 + 1 := by omega
  simp [atI, ixN, this]
def Kd.tag : Kd → Str | .truth => "truth" | .word _ => "word" | .arr _ _ => "array"
section
variable {st : Sto} {R : DQ}
theorem ixK0 {k : Kd} (h : R (.str k.tag) st) : dIx k.d (.int 0) st R := by cases k <;> exact dIx_t at0 h
theorem ixL0 {x : D} {xs : List D} (h : R x st) : dIx (.lst (x :: xs)) (.int 0) st R := dIx_l at0 h
theorem ixL1 {x y : D} {xs : List D} (h : R y st) : dIx (.lst (x :: y :: xs)) (.int 1) st R := dIx_l at1 h
theorem ixL2 {x y z : D} {xs : List D} (h : R z st) : dIx (.lst (x :: y :: z :: xs)) (.int 2) st R := dIx_l at2 h
theorem ixT0 {x : D} {xs : List D} (h : R x st) : dIx (.tup (x :: xs)) (.int 0) st R := dIx_t at0 h
theorem ixT1 {x y : D} {xs : List D} (h : R y st) : dIx (.tup (x :: y :: xs)) (.int 1) st R := dIx_t at1 h
theorem ixT2 {x y z : D} {xs : List D} (h : R z st) : dIx (.tup (x :: y :: z :: xs)) (.int 2) st R := dIx_t at2 h
end
theorem cut1 {α : Type} {x : α} {xs : List α} : ((x :: xs).drop (HT.sIx (xs.length + 1) 0 (some 1))).take (HT.sIx (xs.length + 1) (xs.length + 1) none - HT.sIx (xs.length + 1) 0 (some 1)) = xs := by
  have : HT.sIx (xs.length + 1) 0 (some 1) = 1 := by simp [HT.sIx]
  rw [this]
  have : HT.sIx (xs.length + 1) (xs.length + 1) none = xs.length + 1 := by simp [HT.sIx]
  rw [this]; simp
theorem cutD_from1 {x : D} {xs : List D} : cutD (x :: xs) (some 1) none = xs := cut1
theorem cutD_to1 {x : D} {xs : List D} : cutD (x :: xs) none (some 1) = [x] := by
  unfold cutD
  have : HT.sIx (x :: xs).length 0 none = 0 := by simp [HT.sIx]
  rw [this]
  have : HT.sIx (x :: xs).length (x :: xs).length (some 1) = 1 := by simp [HT.sIx]
  rw [this]; simp
theorem cutD_nil (lo hi : Option Int) : cutD [] lo hi = [] := by simp [cutD]
theorem cutD_to2 {xs : List D} : cutD xs none (some 2) = xs.take 2 := by
  unfold cutD
  have : HT.sIx xs.length 0 none = 0 := by simp [HT.sIx]
  rw [this]
  have : HT.sIx xs.length xs.length (some 2) = min 2 xs.length := by simp [HT.sIx]
  rw [this, Nat.sub_zero, List.drop_zero]
  by_cases q : 2 ≤ xs.length
  · rw [Nat.min_eq_left q]
  · rw [Nat.min_eq_right (by omega), List.take_of_length_le (Nat.le_refl _), List.take_of_length_le (by omega)]
theorem cutD_from2 {xs : List D} : cutD xs (some 2) none = xs.drop 2 := by
  unfold cutD
  have h1 : HT.sIx xs.length 0 (some 2) = min 2 xs.length := by simp [HT.sIx]
  have h2 : HT.sIx xs.length xs.length none = xs.length := by simp [HT.sIx]
  rw [h1, h2]
  by_cases q : 2 ≤ xs.length
  · rw [Nat.min_eq_left q, List.take_of_length_le (by simp)]
  · rw [Nat.min_eq_right (by omega)]
    simp
    omega
theorem sem_of_nothing (c : Cl) : ∀ ds st R xq, spof_nothing c ds st R xq → wof_nothing c (EndsOf R xq) (startD ["kinds", "marks"] ds) st := by
  rintro ds st R xq ⟨ks, ms, rfl, hf, k⟩
  show wof_nothing c ⟨_, _, _, _, _⟩ [some (.lst (ks.map Kd.d)), some (.tup ms)] st
  unfold wof_nothing
  unfold kNothing at k
  walk_at "s"
  refine dEQ_kds (bs := []) ?_
  walk_at "s"
  by_cases q : ks = []
  · refine ifT (by simpa [xorB] using q) ?_
    walk_at "s"
    refine dEQ_nil hf ?_
    walk_at "s"
    by_cases q2 : ms.isEmpty = true
    · rw [if_pos ⟨q, q2⟩] at k
      exact ifT (by simpa [xorB] using q2) (by walk_at "s"; exact k)
    · rw [if_neg (fun z => q2 z.2)] at k
      exact ifF (by simpa [xorB] using q2) (by walk_at "s"; exact k)
  · rw [if_neg (fun z => q z.1)] at k
    refine ifF (by simpa [xorB] using q) ?_
    walk_at "s"
    exact k
theorem sem_of_truth (c : Cl) : ∀ ds st R xq, spof_truth c ds st R xq → wof_truth c (EndsOf R xq) (startD ["kinds", "marks"] ds) st := by
  rintro ds st R xq ⟨ks, ms, rfl, hf, k⟩
  show wof_truth c ⟨_, _, _, _, _⟩ [some (.lst (ks.map Kd.d)), some (.tup ms)] st
  unfold wof_truth
  unfold kTruth at k
  walk_at "s"
  refine dEQ_kds (bs := [.truth]) ?_
  walk_at "s"
  by_cases q : ks = [.truth]
  · refine ifT (by simpa [xorB] using q) ?_
    walk_at "s"
    refine dEQ_nil hf ?_
    walk_at "s"
    by_cases q2 : ms.isEmpty = true
    · rw [if_pos ⟨q, q2⟩] at k
      exact ifT (by simpa [xorB] using q2) (by walk_at "s"; exact k)
    · rw [if_neg (fun z => q2 z.2)] at k
      exact ifF (by simpa [xorB] using q2) (by walk_at "s"; exact k)
  · rw [if_neg (fun z => q z.1)] at k
    refine ifF (by simpa [xorB] using q) ?_
    walk_at "s"
    exact k
theorem sem_of_truths (c : Cl) : ∀ ds st R xq, spof_truths c ds st R xq → wof_truths c (EndsOf R xq) (startD ["kinds", "marks"] ds) st := by
  rintro ds st R xq ⟨ks, ms, rfl, hf, k⟩
  show wof_truths c ⟨_, _, _, _, _⟩ [some (.lst (ks.map Kd.d)), some (.tup ms)] st
  unfold wof_truths
  unfold kTruths at k
  walk_at "s"
  refine dEQ_kds (bs := [.truth, .truth]) ?_
  walk_at "s"
  by_cases q : ks = [.truth, .truth]
  · refine ifT (by simpa [xorB] using q) ?_
    walk_at "s"
    refine dEQ_nil hf ?_
    walk_at "s"
    by_cases q2 : ms.isEmpty = true
    · rw [if_pos ⟨q, q2⟩] at k
      exact ifT (by simpa [xorB] using q2) (by walk_at "s"; exact k)
    · rw [if_neg (fun z => q2 z.2)] at k
      exact ifF (by simpa [xorB] using q2) (by walk_at "s"; exact k)
  · rw [if_neg (fun z => q z.1)] at k
    refine ifF (by simpa [xorB] using q) ?_
    walk_at "s"
    exact k
theorem sem_of_marks (c : Cl) : ∀ ds st R xq, spof_marks c ds st R xq → wof_marks c (EndsOf R xq) (startD ["kinds", "marks"] ds) st := by
  rintro ds st R xq ⟨ks, ms, rfl, hf, k⟩
  show wof_marks c ⟨_, _, _, _, _⟩ [some (.lst (ks.map Kd.d)), some (.tup ms)] st
  unfold wof_marks
  walk_at "s"
  refine dEQ_kds (bs := []) ?_
  walk_at "s"
  by_cases q : ks = []
  case neg =>
    refine ifT (by simpa [xorB] using q) ?_
    walk_at "s"
    have : kMarks ks ms = none := by cases ks with | nil => exact (q rfl).elim | cons _ _ => rfl
    rw [this] at k; exact k
  subst q
  refine ifF (by simp [xorB]) ?_
  walk_at "s"
  match ms, hf, k with
  | [], hf, k => exact k
  | [x], hf, k =>
    have e : ∀ a : D, kMarks [] [a] = none := fun a => by cases a <;> rfl
    rw [e] at k
    exact ifT rfl (by walk_at "s"; exact k)
  | _ :: _ :: _ :: r, hf, k =>
    refine ifT (by simp [xorB]; omega) ?_
    walk_at "s"
    have e : ∀ a b d : D, kMarks [] (a :: b :: d :: r) = none := fun a b d => by cases a <;> rfl
    rw [e] at k; exact k
  | [a, b], hf, k =>
    refine ifF rfl ?_
    walk_at "s"
    refine ixT0 ?_
    walk_at "s"
    have fa : flatM a = true := by simp at hf; exact hf.1
    have fb : flatM b = true := by simp at hf; exact hf.2
    have ty : ∀ d : D, flatM d = true → (tyD st d).isSome = true := fun d h => by cases d <;> first | rfl | (simp [flatM] at h)
    refine ⟨a, 1, 8, rfl, ty a fa, ?_⟩
    walk_at "s"
    cases a with
    | int i =>
      by_cases q1 : isW (.int i) 1 8 = true
      · refine ifF (by rw [q1]; rfl) ?_
        have hi : 1 ≤ i ∧ i ≤ 8 := by simpa [isW] using q1
        walk_at "s"
        refine ixT1 ?_
        walk_at "s"
        refine ixT0 ?_
        refine dII_i ⟨by omega, by omega, by decide⟩ ?_
        walk_at "s"
        rw [Int.one_mul]
        refine ⟨b, 0, _, rfl, ty b fb, ?_⟩
        walk_at "s"
        by_cases q2 : isW b 0 (2 ^ i.toNat - 1) = true
        · refine ifT q2 ?_
          walk_at "s"
          refine ixT0 ?_
          walk_at "s"
          have : kMarks [] [.int i, b] = some (.word i.toNat) := by simp only [kMarks]; rw [if_pos ⟨q1, q2⟩]
          rw [this] at k
          have e : (i.toNat : Int) = i := by omega
          simp only [optD, Kd.d, Kd.its, e] at k
          exact k
        · refine ifF (by simpa using q2) ?_
          walk_at "s"
          have : kMarks [] [.int i, b] = none := by simp only [kMarks]; rw [if_neg (fun z => q2 z.2)]
          rw [this] at k; exact k
      · refine ifT (by rw [Bool.eq_false_iff.mpr q1]; rfl) ?_
        walk_at "s"
        have : kMarks [] [.int i, b] = none := by simp only [kMarks]; rw [if_neg (fun z => q1 z.1)]
        rw [this] at k; exact k
    | bl i => exact k
    | non => simp [flatM] at fa
    | str _ => simp [flatM] at fa
    | lst _ => simp [flatM] at fa
    | scr _ => simp [flatM] at fa
    | tup _ => simp [flatM] at fa
    | hdl _ => simp [flatM] at fa
    | raw _ => simp [flatM] at fa
    | exc _ => simp [flatM] at fa
theorem sem_of_alike (c : Cl) : ∀ ds st R xq, spof_alike c ds st R xq → wof_alike c (EndsOf R xq) (startD ["kinds", "marks"] ds) st := by
  rintro ds st R xq ⟨ks, ms, rfl, hf, k⟩
  show wof_alike c ⟨_, _, _, _, _⟩ [some (.lst (ks.map Kd.d)), some (.tup ms)] st
  unfold wof_alike
  walk_at "s"
  match ks, k with
  | [], k => exact k
  | [_], k => exact k
  | _ :: _ :: _ :: r, k =>
    refine ifF (by simp [xorB]; omega) ?_
    walk_at "s"
    exact k
  | [a, b], k =>
    refine ifT rfl ?_
    walk_at "s"
    refine ixL0 ?_
    walk_at "s"
    refine ixL1 ?_
    refine dEQ_kd ?_
    walk_at "s"
    by_cases q : a = b
    · refine ifT (by simpa [xorB] using q) ?_
      walk_at "s"
      refine dEQ_nil hf ?_
      walk_at "s"
      simp only [kAlike] at k
      by_cases q2 : ms.isEmpty = true
      · rw [if_pos ⟨q, q2⟩] at k
        exact ifT (by simpa [xorB] using q2) (by walk_at "s"; exact k)
      · rw [if_neg (fun z => q2 z.2)] at k
        exact ifF (by simpa [xorB] using q2) (by walk_at "s"; exact k)
    · refine ifF (by simpa [xorB] using q) ?_
      walk_at "s"
      simp only [kAlike] at k
      rw [if_neg (fun z => q z.1)] at k
      exact k

section
variable {n : Bool} {st : Sto} {R : DQ}
/-- a kind's tag and "word" -/
theorem dEQ_tag {n : Bool} {k : Kd} {x : Str} {st : Sto} {R : DQ} (h : R (.bl (xorB n (decide (k.tag = x)))) st) : dEQ n (.str k.tag) (.str x) st R := h
end
theorem optD_non (o : Option Kd) : isNon (optD o) = o.isNone := by cases o <;> rfl
theorem kWords_none {ks : List Kd} {ms : List D} (h : kAlike ks ms = none) : kWords ks ms = none := by
  match ks, h with
  | [], _ => rfl
  | [a], _ => cases a <;> rfl
  | [a, b], h =>
    simp only [kAlike] at h
    by_cases q : a = b ∧ ms.isEmpty = true
    · rw [if_pos q] at h; cases h
    · cases a with
      | word n => simp only [kWords]; rw [if_neg q]
      | truth => rfl
      | arr _ _ => rfl
  | a :: b :: d :: r, _ => cases a <;> rfl
theorem sem_of_words (c : Cl) : ∀ ds st R xq, spof_words c ds st R xq → wof_words c (EndsOf R xq) (startD ["kinds", "marks"] ds) st := by
  rintro ds st R xq ⟨ks, ms, rfl, hf, k⟩
  show wof_words c ⟨_, _, _, _, _⟩ [some (.lst (ks.map Kd.d)), some (.tup ms)] st
  unfold wof_words
  walk_at "s"
  refine ⟨ks, ms, rfl, hf, ?_⟩
  walk_at "s"
  rw [optD_non]
  cases e : kAlike ks ms with
  | none =>
    refine ifT rfl ?_
    walk_at "s"
    have : kWords ks ms = none := kWords_none e
    rw [this] at k; exact k
  | some t =>
    refine ifF rfl ?_
    unfold kAlike at e
    split at e
    · split at e
      · rename_i a b q
        obtain ⟨rfl, q2⟩ := q
        walk_at "s"
        refine ixL0 ?_
        walk_at "s"
        refine ixK0 ?_
        walk_at "s"
        cases a with
        | word m =>
          refine ifF rfl ?_
          walk_at "s"
          refine ixL0 ?_
          have e9 : kWords [.word m, .word m] ms = some (.word m) := by simp [kWords, q2]
          rw [e9] at k
          exact k
        | truth =>
          refine ifT rfl ?_
          walk_at "s"
          exact k
        | arr _ _ =>
          refine ifT rfl ?_
          walk_at "s"
          exact k
      · cases e
    · cases e
theorem sem_of_less (c : Cl) : ∀ ds st R xq, spof_less c ds st R xq → wof_less c (EndsOf R xq) (startD ["kinds", "marks"] ds) st := by
  rintro ds st R xq ⟨ks, ms, rfl, hf, k⟩
  show wof_less c ⟨_, _, _, _, _⟩ [some (.lst (ks.map Kd.d)), some (.tup ms)] st
  unfold wof_less
  walk_at "s"
  refine ⟨ks, ms, rfl, hf, ?_⟩
  walk_at "s"
  rw [optD_non]
  unfold kLess at k
  cases e : kWords ks ms with
  | none =>
    rw [e] at k
    exact ifT rfl (by walk_at "s"; exact k)
  | some t =>
    rw [e] at k
    exact ifF rfl (by walk_at "s"; exact k)
theorem sem_of_choice (c : Cl) : ∀ ds st R xq, spof_choice c ds st R xq → wof_choice c (EndsOf R xq) (startD ["kinds", "marks"] ds) st := by
  rintro ds st R xq ⟨ks, ms, rfl, hf, k⟩
  show wof_choice c ⟨_, _, _, _, _⟩ [some (.lst (ks.map Kd.d)), some (.tup ms)] st
  unfold wof_choice
  walk_at "s"
  cases ks with
  | nil =>
    rw [List.map_nil, cutD_nil]
    refine dEQ_kds (as := []) (bs := [.truth]) ?_
    walk_at "s"
    exact k
  | cons t ks =>
    rw [List.map_cons, cutD_to1]
    refine dEQ_kds (as := [t]) (bs := [.truth]) ?_
    walk_at "s"
    by_cases q : t = .truth
    · subst q
      refine ifF rfl ?_
      walk_at "s"
      rw [cutD_from1]
      refine ⟨ks, ms, rfl, hf, ?_⟩
      walk_at "s"
      rw [optD_non]
      match ks, k with
      | [], k => exact ifT rfl (by walk_at "s"; exact k)
      | [_], k => exact ifT rfl (by walk_at "s"; exact k)
      | _ :: _ :: _ :: _, k => exact ifT rfl (by walk_at "s"; exact k)
      | [a, b], k =>
        simp only [kChoice] at k
        by_cases q : a = b ∧ ms.isEmpty = true
        · rw [if_pos q] at k
          refine ifF (by simp only [kAlike]; rw [if_pos q]; rfl) ?_
          walk_at "s"
          exact ixL1 k
        · rw [if_neg q] at k
          refine ifT (by simp only [kAlike]; rw [if_neg q]; rfl) ?_
          walk_at "s"
          exact k
    · refine ifT (by simpa [xorB] using q) ?_
      walk_at "s"
      have : kChoice (t :: ks) ms = none := by
        unfold kChoice
        split
        · rename_i h; cases h; exact (q rfl).elim
        · rfl
      rw [this] at k; exact k
theorem sem_of_word (c : Cl) : ∀ ds st R xq, spof_word c ds st R xq → wof_word c (EndsOf R xq) (startD ["kinds", "marks"] ds) st := by
  rintro ds st R xq ⟨ks, ms, rfl, hf, k⟩
  show wof_word c ⟨_, _, _, _, _⟩ [some (.lst (ks.map Kd.d)), some (.tup ms)] st
  unfold wof_word
  walk_at "s"
  match ks, k with
  | [], k => exact ifF rfl (by walk_at "s"; exact k)
  | _ :: _ :: r, k =>
    refine ifF (by simp [xorB]; omega) ?_
    walk_at "s"
    have : ∀ a b : Kd, kWord (a :: b :: r) ms = none := fun a b => by cases a <;> rfl
    rw [this] at k; exact k
  | [a], k =>
    refine ifT rfl ?_
    walk_at "s"
    refine ixL0 ?_
    walk_at "s"
    refine ixK0 ?_
    walk_at "s"
    cases a with
    | word m =>
      refine ifT rfl ?_
      walk_at "s"
      refine dEQ_nil hf ?_
      walk_at "s"
      simp only [kWord] at k
      by_cases q2 : ms.isEmpty = true
      · rw [if_pos q2] at k
        exact ifT (by simpa [xorB] using q2) (by walk_at "s"; exact ixL0 k)
      · rw [if_neg q2] at k
        exact ifF (by simpa [xorB] using q2) (by walk_at "s"; exact k)
    | truth => exact ifF rfl (by walk_at "s"; exact k)
    | arr _ _ => exact ifF rfl (by walk_at "s"; exact k)
theorem kWord_nil {ks : List Kd} : (kWord ks []).isNone = true ∨ ∃ m, ks = [.word m] := by
  match ks with
  | [] => exact .inl rfl
  | [.word m] => exact .inr ⟨m, rfl⟩
  | [.truth] => exact .inl rfl
  | [.arr _ _] => exact .inl rfl
  | a :: b :: r => exact .inl (by cases a <;> rfl)
theorem sem_of_cut (c : Cl) : ∀ ds st R xq, spof_cut c ds st R xq → wof_cut c (EndsOf R xq) (startD ["kinds", "marks"] ds) st := by
  rintro ds st R xq ⟨ks, ms, rfl, hf, k⟩
  show wof_cut c ⟨_, _, _, _, _⟩ [some (.lst (ks.map Kd.d)), some (.tup ms)] st
  unfold wof_cut
  walk_at "s"
  refine ⟨ks, [], rfl, rfl, ?_⟩
  walk_at "s"
  rw [optD_non]
  rcases kWord_nil (ks := ks) with q | ⟨m, rfl⟩
  · refine ifT q ?_
    walk_at "s"
    have : kCut ks ms = none := by
      unfold kCut
      split
      · simp [kWord] at q
      · rfl
    rw [this] at k; exact k
  refine ifF rfl ?_
  walk_at "s"
  have none_of : (∀ h l, ms ≠ [.int h, .int l]) → kCut [.word m] ms = none := fun z => by
    unfold kCut
    split
    · rename_i h l e; cases e; exact (z h l rfl).elim
    · rfl
  match ms, hf, k, none_of with
  | [], hf, k, _ => exact ifT rfl (by walk_at "s"; exact k)
  | [x], hf, k, no => exact ifT rfl (by walk_at "s"; rw [no (fun _ _ e => by cases e)] at k; exact k)
  | _ :: _ :: _ :: r, hf, k, no =>
    refine ifT (by simp [xorB]; omega) ?_
    walk_at "s"
    rw [no (fun _ _ e => by cases e)] at k; exact k
  | [a, b], hf, k, no =>
    refine ifF rfl ?_
    walk_at "s"
    refine ixT0 ?_
    walk_at "s"
    refine ixL0 ?_
    walk_at "s"
    refine dIx_t at1 ?_
    walk_at "s"
    have fa : flatM a = true := by simp at hf; exact hf.1
    have fb : flatM b = true := by simp at hf; exact hf.2
    have ty : ∀ d : D, flatM d = true → (tyD st d).isSome = true := fun d h => by cases d <;> first | rfl | (simp [flatM] at h)
    refine ⟨a, 0, _, rfl, ty a fa, ?_⟩
    walk_at "s"
    cases a with
    | int h =>
      by_cases q1 : isW (.int h) 0 (m - 1) = true
      · refine ifF (by rw [q1]; rfl) ?_
        walk_at "s"
        refine ixT1 ?_
        walk_at "s"
        refine ixT0 ?_
        walk_at "s"
        refine ⟨b, 0, h, rfl, ty b fb, ?_⟩
        walk_at "s"
        cases b with
        | int l =>
          simp only [kCut] at k
          by_cases q2 : isW (.int l) 0 h = true
          · refine ifT q2 ?_
            walk_at "s"
            refine ixT0 ?_
            walk_at "s"
            refine ixT1 ?_
            walk_at "s"
            rw [if_pos ⟨q1, q2⟩] at k
            have hl : 0 ≤ l ∧ l ≤ h := by simpa [isW] using q2
            have e : ((h - l + 1).toNat : Int) = h - l + 1 := by omega
            simp only [optD, Kd.d, Kd.its, e] at k
            exact k
          · refine ifF (by simpa using q2) ?_
            walk_at "s"
            rw [if_neg (fun z => q2 z.2)] at k
            exact k
        | bl _ => exact ifF rfl (by walk_at "s"; exact k)
        | non => simp [flatM] at fb
        | str _ => simp [flatM] at fb
        | lst _ => simp [flatM] at fb
        | scr _ => simp [flatM] at fb
        | tup _ => simp [flatM] at fb
        | hdl _ => simp [flatM] at fb
        | raw _ => simp [flatM] at fb
        | exc _ => simp [flatM] at fb
      · refine ifT (by rw [Bool.eq_false_iff.mpr q1]; rfl) ?_
        walk_at "s"
        have : kCut [.word m] [.int h, b] = none := by
          cases b with
          | int l => simp only [kCut]; rw [if_neg (fun z => q1 z.1)]
          | _ => rfl
        rw [this] at k; exact k
    | bl _ => exact ifT rfl (by walk_at "s"; exact k)
    | non => simp [flatM] at fa
    | str _ => simp [flatM] at fa
    | lst _ => simp [flatM] at fa
    | scr _ => simp [flatM] at fa
    | tup _ => simp [flatM] at fa
    | hdl _ => simp [flatM] at fa
    | raw _ => simp [flatM] at fa
    | exc _ => simp [flatM] at fa

theorem ne_tw : ¬ ("truth" : Str) = "word" := by decide
theorem ne_aw : ¬ ("array" : Str) = "word" := by decide
theorem pyD_tup2 (n : Nat) : (Kd.word n).d = .tup [.str "word", .int n] := rfl
theorem sem_of_joined (c : Cl) : ∀ ds st R xq, spof_joined c ds st R xq → wof_joined c (EndsOf R xq) (startD ["kinds", "marks", "many", "kind"] ds) st := by
  rintro ds st R xq ⟨ks, ms, rfl, hf, k⟩
  show wof_joined c ⟨_, _, _, _, _⟩ [some (.lst (ks.map Kd.d)), some (.tup ms), none, none] st
  unfold wof_joined
  walk_at "s"
  have off : ∀ (ks : List Kd), ks.length ≠ 2 → kJoined ks ms = none := by
    intro ks h
    unfold kJoined
    split
    · simp at h
    · rfl
  by_cases hl : ks.length = 2
  case neg =>
    refine ifT (by simp [xorB]; omega) ?_
    walk_at "s"
    rw [off ks hl] at k; exact k
  refine ifF (by simp [xorB, hl]) ?_
  walk_at "s"
  obtain ⟨a, b, rfl⟩ : ∃ a b, ks = [a, b] := by
    match ks, hl with
    | [a, b], _ => exact ⟨a, b, rfl⟩
  refine dEQ_nil hf ?_
  walk_at "s"
  by_cases q2 : ms.isEmpty = true
  case neg =>
    refine ifT (by simpa [xorB] using q2) ?_
    walk_at "s"
    have : kJoined [a, b] ms = none := by
      cases a with
      | word n => cases b with
        | word m => simp [kJoined, q2]
        | _ => rfl
      | _ => rfl
    rw [this] at k; exact k
  refine ifF (by simpa [xorB] using q2) ?_
  walk_at "s"
  -- the kinds that are no words
  refine lcD_ind (fun xs acc st' => st' = st ∧ ∃ done left : List Kd, [a, b] = done ++ left ∧ xs = left.map Kd.d ∧ acc = (done.filter fun k => decide (k.tag ≠ ("word" : Str))).map Kd.d) ?_ ?_ _ _ _ ⟨rfl, [], [a, b], rfl, rfl, rfl⟩
  · rintro acc st' ⟨rfl, done, left, e1, e2, rfl⟩
    refine ⟨trivial, ?_⟩
    have : left = [] := by cases left with | nil => rfl | cons _ _ => cases e2
    subst this
    rw [List.append_nil] at e1
    subst e1
    walk_at "s"
    refine dEQ_kds (bs := []) ?_
    walk_at "s"
    cases a with
    | word n =>
      cases b with
      | word m =>
        refine ifF (by simp [xorB, Kd.tag]) ?_
        walk_at "s"
        refine ixL0 ?_
        walk_at "s"
        refine dIx_t at1 ?_
        walk_at "s"
        refine ixL1 ?_
        walk_at "s"
        refine dIx_t at1 ?_
        walk_at "s"
        simp only [kJoined] at k
        by_cases q : n + m ≤ 8
        · rw [if_pos ⟨q2, q⟩] at k
          refine ifT (by simp; omega) ?_
          walk_at "s"
          simp only [optD, Kd.d, Kd.its] at k
          rw [Int.natCast_add] at k
          exact k
        · rw [if_neg (fun z => q z.2)] at k
          refine ifF (by simp; omega) ?_
          walk_at "s"
          exact k
      | truth => exact ifT (by simp [xorB, Kd.tag, ne_tw, ne_aw]) (by walk_at "s"; exact k)
      | arr _ _ => exact ifT (by simp [xorB, Kd.tag, ne_tw, ne_aw]) (by walk_at "s"; exact k)
    | truth => exact ifT (by simp [xorB, Kd.tag, ne_tw, ne_aw]) (by walk_at "s"; exact k)
    | arr _ _ => exact ifT (by simp [xorB, Kd.tag, ne_tw, ne_aw]) (by walk_at "s"; exact k)
  · rintro x xs acc st' K ⟨rfl, done, left, e1, e2, rfl⟩ hK
    refine ⟨trivial, ?_⟩
    cases left with
    | nil => cases e2
    | cons l left =>
    cases e2
    have hlen : done.length ≤ 2 := by
      have := congrArg List.length e1
      simp at this; omega
    walk_at "s"
    refine ixK0 ?_
    walk_at "s"
    by_cases q : l.tag = ("word" : Str)
    · refine ifF (by simp [xorB, q]) ?_
      exact hK _ _ ⟨rfl, done ++ [l], left, by rw [e1]; simp, rfl, by simp [List.filter_append, q]⟩
    · refine ifT (by simp [xorB, q]) ?_
      walk_at "s"
      refine ⟨?_, hK _ _ ⟨rfl, done ++ [l], left, by rw [e1]; simp, rfl, by simp [List.filter_append, q]⟩⟩
      have := List.length_filter_le (fun k : Kd => decide (k.tag ≠ ("word" : Str))) done
      rw [List.length_map]
      simp only [sizeLine]; omega
theorem sem_of_read (c : Cl) : ∀ ds st R xq, spof_read c ds st R xq → wof_read c (EndsOf R xq) (startD ["kinds", "marks"] ds) st := by
  rintro ds st R xq ⟨ks, ms, rfl, hf, k⟩
  show wof_read c ⟨_, _, _, _, _⟩ [some (.lst (ks.map Kd.d)), some (.tup ms)] st
  unfold wof_read
  walk_at "s"
  by_cases hl : ks.length = 2
  case neg =>
    refine ifT (by simp [xorB]; omega) ?_
    walk_at "s"
    have : kRead ks ms = none := by
      unfold kRead
      split
      · simp at hl
      · rfl
    rw [this] at k; exact k
  refine ifF (by simp [xorB, hl]) ?_
  walk_at "s"
  obtain ⟨a, b, rfl⟩ : ∃ a b, ks = [a, b] := by
    match ks, hl with
    | [a, b], _ => exact ⟨a, b, rfl⟩
  refine dEQ_nil hf ?_
  walk_at "s"
  by_cases q2 : ms.isEmpty = true
  case neg =>
    refine ifT (by simpa [xorB] using q2) ?_
    walk_at "s"
    have : kRead [a, b] ms = none := by
      cases a with
      | arr n m => cases b with
        | word m => simp [kRead, q2]
        | _ => rfl
      | _ => rfl
    rw [this] at k; exact k
  refine ifF (by simpa [xorB] using q2) ?_
  walk_at "s"
  refine ixL0 ?_
  walk_at "s"
  refine ixK0 ?_
  walk_at "s"
  cases a with
  | truth => exact ifT rfl (by walk_at "s"; exact k)
  | word _ => exact ifT rfl (by walk_at "s"; exact k)
  | arr p n =>
    refine ifF rfl ?_
    walk_at "s"
    refine ixL1 ?_
    walk_at "s"
    refine ixL0 ?_
    walk_at "s"
    refine dIx_t at1 ?_
    walk_at "s"
    refine dEQ_kd (b := .word p) ?_
    walk_at "s"
    by_cases q : b = .word p
    · subst q
      refine ifF (by simp [xorB]) ?_
      walk_at "s"
      refine ixL0 ?_
      walk_at "s"
      refine dIx_t at2 ?_
      walk_at "s"
      simp only [kRead] at k
      rw [if_pos ⟨q2, trivial⟩] at k
      exact k
    · refine ifT (by simpa [xorB] using q) ?_
      walk_at "s"
      have : kRead [.arr p n, b] ms = none := by
        cases b with
        | word m =>
          simp only [kRead]
          rw [if_neg]
          rintro ⟨_, rfl⟩
          exact q rfl
        | _ => rfl
      rw [this] at k; exact k
theorem sem_of_written (c : Cl) : ∀ ds st R xq, spof_written c ds st R xq → wof_written c (EndsOf R xq) (startD ["kinds", "marks"] ds) st := by
  rintro ds st R xq ⟨ks, ms, rfl, hf, k⟩
  show wof_written c ⟨_, _, _, _, _⟩ [some (.lst (ks.map Kd.d)), some (.tup ms)] st
  unfold wof_written
  walk_at "s"
  rw [cutD_to2, ← List.map_take]
  refine ⟨ks.take 2, ms, rfl, hf, ?_⟩
  walk_at "s"
  rw [optD_non]
  have no : kRead (ks.take 2) ms = none → kWritten ks ms = none := by
    intro h
    unfold kWritten
    split
    · rename_i p n q r ms'
      simp only [List.take, kRead] at h
      split at h
      · cases h
      · rename_i z
        rw [if_neg (fun y => z ⟨y.1, y.2.1⟩)]
    · rfl
  cases e : kRead (ks.take 2) ms with
  | none =>
    refine ifT rfl ?_
    walk_at "s"
    rw [no e] at k; exact k
  | some t =>
    refine ifF rfl ?_
    obtain ⟨p, n, rest, rfl, q2⟩ : ∃ p n rest, ks = .arr p n :: .word p :: rest ∧ ms.isEmpty = true := by
      match ks, e with
      | [], e => cases e
      | [a], e => cases a <;> cases e
      | a :: b :: rest, e =>
        simp only [List.take] at e
        cases a with
        | arr p n => cases b with
          | word m =>
            simp only [kRead] at e
            split at e
            · rename_i z
              exact ⟨p, n, rest, by rw [z.2], z.1⟩
            · cases e
          | truth => cases e
          | arr _ _ => cases e
        | truth => cases e
        | word _ => cases e
    walk_at "s"
    rw [cutD_from2, ← List.map_drop]
    walk_at "s"
    refine ixL0 ?_
    walk_at "s"
    refine dIx_t at2 ?_
    walk_at "s"
    refine dEQ_kds (as := rest) (bs := [.word n]) ?_
    walk_at "s"
    by_cases q : rest = [.word n]
    · subst q
      refine ifF (by simp [xorB]) ?_
      walk_at "s"
      refine ixL0 ?_
      have : kWritten [.arr p n, .word p, .word n] ms = some (.arr p n) := by simp [kWritten, q2]
      rw [this] at k; exact k
    · refine ifT (by simpa [xorB] using q) ?_
      walk_at "s"
      have : kWritten (.arr p n :: .word p :: rest) ms = none := by
        unfold kWritten
        split
        · rename_i h
          cases h
          rw [if_neg]
          rintro ⟨_, _, rfl⟩
          exact q rfl
        · rfl
      rw [this] at k; exact k

/-! ### tables -/
inductive Par {α β γ : Type} (P : β → γ → Prop) : List (α × β) → List (α × γ) → Prop
  | nil : Par P [] []
  | cons {k : α} {b : β} {d : γ} {l : List (α × β)} {m : List (α × γ)} : P b d → Par P l m → Par P ((k, b) :: l) ((k, d) :: m)
theorem Par.look {β γ : Type} {P : β → γ → Prop} {w : Str} : ∀ {l : List (Str × β)} {m : List (Str × γ)}, Par P l m → (∃ b d, l.lookup w = some b ∧ m.lookup w = some d ∧ P b d) ∨ (l.lookup w = none ∧ m.lookup w = none) := by
  intro l m h
  induction h with
  | nil => exact .inr ⟨rfl, rfl⟩
  | @cons k b d l m hp _ ih =>
    by_cases e : (w == k) = true
    · exact .inl ⟨b, d, by simp [List.lookup, e], by simp [List.lookup, e], hp⟩
    · simpa [List.lookup, e] using ih
theorem par_rules (c : Cl) : Par (fun (a : Addr) (g : List Kd → List D → Option Kd) => (a, spRule g) ∈ cbRULES c) (tbRULES c) wordRules := by
  unfold tbRULES wordRules
  repeat' first
    | exact Par.nil
    | apply Par.cons
  all_goals (unfold cbRULES; simp [spof_nothing, spof_marks, spof_truth, spof_truths, spof_alike, spof_words, spof_less, spof_choice, spof_word, spof_joined, spof_cut, spof_read, spof_written])
theorem rules_some (c : Cl) (w : Str) : ((tbRULES c).lookup w).isSome = (ruleOf w).isSome := by
  unfold ruleOf
  rcases (par_rules c).look (w := w) with ⟨b, d, e1, e2, _⟩ | ⟨e1, e2⟩ <;> rw [e1, e2] <;> rfl
theorem sem_kind_by (c : Cl) : ∀ ds st R xq, spkind_by c ds st R xq → wkind_by c (EndsOf R xq) (startD ["word", "kinds", "marks", "rule"] ds) st := by
  rintro ds st R xq ⟨w, ks, ms, g, rfl, hg, hf, k⟩
  show wkind_by c ⟨_, _, _, _, _⟩ [some (.str w), some (.lst (ks.map Kd.d)), some (.tup ms), none] st
  unfold wkind_by
  walk_at "s"
  rcases (par_rules c).look (w := w) with ⟨a, g', e1, e2, hp⟩ | ⟨_, e2⟩
  · rw [show wordRules.lookup w = ruleOf w from rfl, hg] at e2
    cases e2
    refine dIxKD_i e1 ?_
    walk_at "s"
    refine mCallT_i rfl hp ?_
    walk_at "s"
    exact ⟨ks, ms, rfl, hf, k⟩
  · rw [show wordRules.lookup w = ruleOf w from rfl, hg] at e2
    cases e2
/-! ### names -/
theorem dIN_tupS {n : Bool} {x : Str} {ys : List Str} {st : Sto} {R : DQ} (h : R (.bl (if n then !(ys.any fun y => decide (y = x)) else ys.any fun y => decide (y = x))) st) : dIN n (.str x) (.tup (ys.map D.str)) st R := by
  have e : (ys.map D.str).any (fun y => eqFD y (.str x)) = ys.any fun y => decide (y = x) := by
    rw [List.any_map]
    congr 1
  refine ⟨rfl, by rw [List.all_map]; simp [Function.comp_def], ?_⟩
  rw [e]; exact h
theorem len_cps (x : Str) : x.cps.toList.length = x.length := rfl
theorem letters_eq : (("abcdefghijklmnopqrstuvwxyz" : Str)).cps.toList = letterL := by decide +kernel
theorem sem_is_name (c : Cl) : ∀ ds st R xq, spis_name c ds st R xq → wis_name c (EndsOf R xq) (startD ["text", "sign"] ds) st := by
  rintro ds st R xq ⟨x, rfl, hl, k⟩
  show wis_name c ⟨_, _, _, _, _⟩ [some (.str x), none] st
  unfold wis_name
  walk_at "s"
  refine ⟨"str", true, rfl, rfl, ?_⟩
  walk_at "s"
  refine ⟨by simp only [sizeLine]; omega, ?_⟩
  walk_at "s"
  unfold isNm at k
  by_cases h1 : 1 ≤ x.length
  case neg =>
    refine ifF (by simp; omega) ?_
    walk_at "s"
    rw [decide_eq_false h1] at k; exact k
  refine ifT (by simp; omega) ?_
  walk_at "s"
  by_cases h2 : x.length ≤ 8
  case neg =>
    refine ifT (by simp; omega) ?_
    walk_at "s"
    rw [decide_eq_false h2] at k
    simp only [Bool.and_false, Bool.false_and] at k
    exact k
  refine ifF (by simp; omega) ?_
  walk_at "s"
  rw [decide_eq_true h1, decide_eq_true h2] at k
  simp only [Bool.true_and] at k
  cases hr : (ruleOf x).isSome with
  | true =>
    refine ifT (by rw [rules_some, hr]; rfl) ?_
    walk_at "s"
    rw [hr] at k
    simp only [Bool.not_true, Bool.false_and] at k
    exact k
  | false =>
  refine ifF (by rw [rules_some, hr]; rfl) ?_
  walk_at "s"
  refine dIN_tupS (ys := ["name", "array"]) ?_
  walk_at "s"
  rw [hr] at k
  simp only [Bool.not_false, Bool.true_and] at k
  by_cases h3 : x = "name"
  · refine ifT (by simp [h3]) ?_
    walk_at "s"
    rw [decide_eq_true h3] at k
    simp only [Bool.not_true, Bool.false_and] at k
    exact k
  by_cases h4 : x = "array"
  · refine ifT (by simp [h4]) ?_
    walk_at "s"
    rw [decide_eq_true h4] at k
    simp only [Bool.not_true, Bool.and_false, Bool.false_and] at k
    exact k
  refine ifF (by simp [Ne.symm h3, Ne.symm h4]) ?_
  walk_at "s"
  rw [decide_eq_false h3, decide_eq_false h4] at k
  simp only [Bool.not_false, Bool.true_and] at k
  refine lcD_ind (fun xs acc st' => st' = st ∧ ∃ done left : List Nat, x.cps.toList = done ++ left ∧ xs = left.map (fun c => D.str ⟨#[c]⟩) ∧ acc = (done.map fun c => decide (c ∈ letterL)).map D.bl) ?_ ?_ _ _ _ ⟨rfl, [], _, rfl, rfl, rfl⟩
  · rintro acc st' ⟨rfl, done, left, e1, e2, rfl⟩
    refine ⟨trivial, ?_⟩
    have : left = [] := by cases left with | nil => rfl | cons _ _ => cases e2
    subst this
    rw [List.append_nil] at e1
    walk_at "s"
    refine dAll_l ?_
    rw [e1] at k
    rw [List.all_map]
    exact k
  · rintro y xs acc st' K ⟨rfl, done, left, e1, e2, rfl⟩ hK
    refine ⟨trivial, ?_⟩
    cases left with
    | nil => cases e2
    | cons l left =>
    cases e2
    walk_at "s"
    refine dIN_sign ?_
    rw [letters_eq]
    have hlen : done.length ≤ 8 := by
      have := congrArg List.length e1
      rw [len_cps] at this
      simp at this; omega
    refine ⟨by simp only [List.length_map, sizeLine]; omega, hK _ _ ⟨rfl, done ++ [l], left, by rw [e1]; simp, rfl, by simp⟩⟩
/-! ### the bank -/
theorem ints_nk (ps : List Nat) : NK.ds (ps.map fun (n : Nat) => NK.int (n : Int)) = dNs ps := by
  induction ps with
  | nil => rfl
  | cons p ps ih => simp only [List.map_cons, NK.ds, NK.d, ih]
theorem ints_nk2 (ps : List Int) : NK.ds (ps.map NK.int) = dIs ps := by
  induction ps with
  | nil => rfl
  | cons p ps ih => simp only [List.map_cons, NK.ds, NK.d, ih]
theorem kd_nk (k : Kd) : k.nk.d = k.d := by cases k <;> simp [Kd.nk, Kd.nks, Kd.d, Kd.its, NK.d, NK.ds]
theorem nd_nk (n : Nd) : n.nk.d = n.d := by
  cases n with
  | nm x k => simp [Nd.nk, Nd.nks, Nd.d, Nd.its, NK.d, NK.ds, kd_nk]
  | ap w ps ms =>
    have h1 := ints_nk ps
    have h2 := ints_nk2 ms
    simp only [Nd.nk, Nd.nks, Nd.d, Nd.its, NK.d, NK.ds, h1, h2]
theorem nkOf_nd (n : Nd) : nkOf n.d = some n.nk := by rw [← nd_nk]; exact nkOf_d _
theorem kd_nkdep (k : Kd) : k.nk.dep = 1 := by cases k <;> simp [Kd.nk, Kd.nks, NK.dep, NK.deps]
theorem deps_ints (ps : List Nat) : NK.deps (ps.map fun (n : Nat) => NK.int (n : Int)) = 0 := by
  induction ps with
  | nil => rfl
  | cons p ps ih => simp only [List.map_cons, NK.deps, NK.dep, ih, Nat.max_self]
theorem deps_ints2 (ps : List Int) : NK.deps (ps.map NK.int) = 0 := by
  induction ps with
  | nil => rfl
  | cons p ps ih => simp only [List.map_cons, NK.deps, NK.dep, ih, Nat.max_self]
theorem nd_dep (n : Nd) : n.nk.dep ≤ 8 := by
  cases n with
  | nm x k => simp [Nd.nk, Nd.nks, NK.dep, NK.deps, kd_nkdep]
  | ap w ps ms =>
    have h1 := deps_ints ps
    have h2 := deps_ints2 ms
    simp only [Nd.nk, Nd.nks, NK.dep, NK.deps, h1, h2]; decide
theorem kd_nkinj {a b : Kd} (h : a.nk = b.nk) : a = b := by
  cases a <;> cases b <;> simp [Kd.nk, Kd.nks] at h <;> first | rfl | skip
  · rw [Int.ofNat.inj h]
  · rw [Int.ofNat.inj h.1, Int.ofNat.inj h.2]
theorem map_inj' {α β : Type} {f : α → β} (hf : ∀ a b, f a = f b → a = b) : ∀ {l m : List α}, l.map f = m.map f → l = m
  | [], [], _ => rfl
  | [], _ :: _, e => by simp at e
  | _ :: _, [], e => by simp at e
  | a :: l, b :: m, e => by
    simp only [List.map_cons, List.cons.injEq] at e
    rw [hf _ _ e.1, map_inj' hf e.2]
theorem nd_nkinj {a b : Nd} (h : a.nk = b.nk) : a = b := by
  cases a with
  | nm x k =>
    cases b with
    | nm y l =>
      simp only [Nd.nk, Nd.nks, NK.tup.injEq, List.cons.injEq, NK.str.injEq, and_true, true_and] at h
      obtain ⟨rfl, h⟩ := h
      rw [kd_nkinj h]
    | ap w ps ms =>
      simp only [Nd.nk, Nd.nks, NK.tup.injEq, List.cons.injEq, NK.str.injEq, and_true] at h
      obtain ⟨_, _, h⟩ := h
      cases ms <;> simp at h
  | ap w ps ms =>
    cases b with
    | nm y l =>
      simp only [Nd.nk, Nd.nks, NK.tup.injEq, List.cons.injEq, NK.str.injEq, and_true] at h
      obtain ⟨_, _, h⟩ := h
      cases ms <;> simp at h
    | ap w' ps' ms' =>
      simp only [Nd.nk, Nd.nks, NK.tup.injEq, List.cons.injEq, NK.str.injEq, and_true] at h
      obtain ⟨rfl, h1, h2⟩ := h
      rw [map_inj' (fun a b e => by injection e with e; omega) h1, map_inj' (fun a b e => by injection e) h2]
theorem placed_val (n : Nd) : ∀ (i : Nat) (ts : Ts), valN (placedF i ts) n.nk = (nIx n ts).map fun j => D.int ((i + j : Nat) : Int)
  | _, [] => rfl
  | i, t :: ts => by
    unfold placedF nIx
    by_cases e : t.1 = n
    · rw [if_pos e]
      subst e
      simp [valN]
    · rw [if_neg e]
      have e2 : ¬ t.1.nk = n.nk := fun z => e (nd_nkinj z)
      have ih := placed_val n (i + 1) ts
      have : valN ((t.1.nk, D.int i) :: placedF (i + 1) ts) n.nk = valN (placedF (i + 1) ts) n.nk := by simp [valN, List.find?_cons, e2]
      rw [this, ih, Option.map_map]
      congr 1
      funext j
      simp only [Function.comp]
      congr 2
      omega
theorem placed_app (t : Nd × Kd) : ∀ (i : Nat) (ts : Ts), placedF i (ts ++ [t]) = placedF i ts ++ [(t.1.nk, .int ((i + ts.length : Nat) : Int))]
  | i, [] => by simp [placedF]
  | i, u :: ts => by
    simp only [List.cons_append, placedF, placed_app t (i + 1) ts, List.length_cons]
    have : (i + 1 + ts.length : Nat) = i + (ts.length + 1) := by omega
    rw [this]
theorem placed_len : ∀ (i : Nat) (ts : Ts), (placedF i ts).length = ts.length
  | _, [] => rfl
  | i, t :: ts => by simp [placedF, placed_len (i + 1) ts]
theorem nIx_some {n : Nd} : ∀ {ts : Ts} {i : Nat}, nIx n ts = some i → ndAt ts i = some n
  | [], i, e => by simp [nIx] at e
  | t :: ts, i, e => by
    unfold nIx at e
    by_cases q : t.1 = n
    · rw [if_pos q] at e; cases e; simp [ndAt, q]
    · rw [if_neg q, Option.map_eq_some_iff] at e
      obtain ⟨j, e1, rfl⟩ := e
      have := nIx_some e1
      simpa [ndAt] using this
theorem nIx_none {n : Nd} : ∀ {ts : Ts}, nIx n ts = none → ∀ i, ndAt ts i ≠ some n
  | [], _, i => by simp [ndAt]
  | t :: ts, e, i => by
    unfold nIx at e
    by_cases q : t.1 = n
    · rw [if_pos q] at e; cases e
    · rw [if_neg q, Option.map_eq_none_iff] at e
      cases i with
      | zero => simpa [ndAt] using q
      | succ i =>
        have := nIx_none e i
        simpa [ndAt] using this
theorem bput_some {ts : Ts} {n : Nd} {k : Kd} {i : Nat} (h : nIx n ts = some i) : bput ts n k = (i, ts) := by unfold bput; rw [h]
theorem bput_none {ts : Ts} {n : Nd} {k : Kd} (h : nIx n ts = none) : bput ts n k = (ts.length, ts ++ [(n, k)]) := by unfold bput; rw [h]

/-! ### the bank's doings -/
theorem setSame {α : Type} {st : List α} {j : Nat} {x y : α} (e : st[j]? = some x) : (st.set j y)[j]? = some y := by
  rw [List.getElem?_set_self (List.getElem?_eq_some_iff.mp e).1]
theorem appL {α : Type} {st l : List α} {j : Nat} {x : α} (e : st[j]? = some x) : (st ++ l)[j]? = some x := by
  rw [List.getElem?_append_left (List.getElem?_eq_some_iff.mp e).1]; exact e
theorem appN {α : Type} {st : List α} {x : α} : (st ++ [x])[st.length]? = some x := by simp
theorem ltOf {α : Type} {st : List α} {j : Nat} {x : α} (e : st[j]? = some x) : j < st.length := (List.getElem?_eq_some_iff.mp e).1
theorem lt_ne {α : Type} {st : List α} {j : Nat} {x : α} (e : st[j]? = some x) : j ≠ st.length := Nat.ne_of_lt (ltOf e)
section
variable {st : Sto} {R : DQ} {c : Cl} {B : BH} {ts tq : Ts} {j : Nat} {n : Nd}
theorem dInNd {neg : Bool} {kvs : List (NK × D)} (e : st[j]? = some (.dN kvs)) (h : R (.bl (if neg then !(valN kvs n.nk).isSome else (valN kvs n.nk).isSome)) st) : dInN neg n.d (.hdl j) st R := by
  unfold dInN; rw [onN_hdl e]; exact ⟨n.nk, nkOf_nd n, nd_dep n, h⟩
theorem dIxNd {kvs : List (NK × D)} {d : D} (e : st[j]? = some (.dN kvs)) (v : valN kvs n.nk = some d) (h : R d st) : dIxN (.hdl j) n.d st R := by
  unfold dIxN; rw [onN_hdl e]; exact ⟨n.nk, nkOf_nd n, nd_dep n, d, v, h⟩
theorem dSetNd {kvs : List (NK × D)} {v : D} {k : Sto → Prop} (e : st[j]? = some (.dN kvs)) (hl : kvs.length < sizeLine) (h : k (st.set j (.dN (putNK kvs n.nk v)))) : dSetN (.hdl j) n.d v st k := by
  unfold dSetN; rw [onN_hdl e]; exact ⟨n.nk, nkOf_nd n, nd_dep n, hl, h⟩
theorem BankQ.f0 {P : D → Prop} (h : BankQ c B ts tq st) (k : P (.hdl B.m)) : onO st (.hdl B.b) c.Bank fun _ fs => ∃ d, fldN fs 0 = some d ∧ P d := onO_h h.obj ⟨_, rfl, k⟩
theorem BankQ.f1 {P : D → Prop} (h : BankQ c B ts tq st) (k : P (.hdl B.s)) : onO st (.hdl B.b) c.Bank fun _ fs => ∃ d, fldN fs 1 = some d ∧ P d := onO_h h.obj ⟨_, rfl, k⟩
theorem BankQ.f2 {P : D → Prop} (h : BankQ c B ts tq st) (k : P (.hdl B.p)) : onO st (.hdl B.b) c.Bank fun _ fs => ∃ d, fldN fs 2 = some d ∧ P d := onO_h h.obj ⟨_, rfl, k⟩
theorem BankQ.f3 {P : D → Prop} (h : BankQ c B ts tq st) (k : P (.hdl B.q)) : onO st (.hdl B.b) c.Bank fun _ fs => ∃ d, fldN fs 3 = some d ∧ P d := onO_h h.obj ⟨_, rfl, k⟩
theorem BankQ.is (h : BankQ c B ts tq st) : onO st (.hdl B.b) c.Bank fun _ _ => True := onO_h h.obj trivial
end
theorem atI_nat {xs : List D} {i : Nat} {d : D} (e : xs[i]? = some d) : atI xs (i : Int) = some d := by
  have h := ltOf e
  have h0 : (0 : Int) ≤ i := by omega
  have h1 : (i : Int) < xs.length := by omega
  simp [atI, ixN, h0, h1, e]
theorem nIx_lt {n : Nd} {ts : Ts} {i : Nat} (h : nIx n ts = some i) : i < ts.length := by
  have := nIx_some h
  unfold ndAt at this
  rw [Option.map_eq_some_iff] at this
  obtain ⟨t, e, _⟩ := this
  exact ltOf e
theorem placed_none {n : Nd} {ts : Ts} (h : nIx n ts = none) : valN (placedF 0 ts) n.nk = none := by rw [placed_val, h]; rfl
theorem placed_some {n : Nd} {ts : Ts} {i : Nat} (h : nIx n ts = some i) : valN (placedF 0 ts) n.nk = some (.int i) := by rw [placed_val, h]; simp
theorem putNK_new {kvs : List (NK × D)} {k : NK} {v : D} (h : valN kvs k = none) : putNK kvs k v = kvs ++ [(k, v)] := by
  unfold putNK
  have : (kvs.any fun p => decide (p.1 = k)) = false := by
    unfold valN at h
    simp only [Option.map_eq_none_iff, List.find?_eq_none] at h
    rw [List.any_eq_false]
    exact h
  rw [this]; rfl
theorem nIx_app {n : Nd} {k : Kd} : ∀ {ts : Ts}, nIx n ts = none → nIx n (ts ++ [(n, k)]) = some ts.length
  | [], _ => by simp [nIx]
  | t :: ts, e => by
    unfold nIx at e
    by_cases q : t.1 = n
    · rw [if_pos q] at e; cases e
    · rw [if_neg q, Option.map_eq_none_iff] at e
      simp only [List.cons_append, nIx, if_neg q, nIx_app e, Option.map_some, List.length_cons]
theorem sem_need_term (c : Cl) : ∀ ds st R xq, spneed_term c ds st R xq → wneed_term c (EndsOf R xq) (startD ["bank", "term"] ds) st := by
  rintro ds st R xq ⟨B, ts, i, rfl, hb, hi, k⟩
  show wneed_term c ⟨_, _, _, _, _⟩ [some (.hdl B.b), some (.int i)] st
  unfold wneed_term
  walk_at "s"
  refine hb.f0 ?_
  walk_at "s"
  refine dLen_h hb.made ?_
  walk_at "s"
  refine ⟨.int i, 0, _, rfl, rfl, ?_⟩
  walk_at "s"
  refine ifF ?_ ?_
  · simp [isW]; omega
  walk_at "s"
  exact k
theorem sem_put_in (c : Cl) : ∀ ds st R xq, spput_in c ds st R xq → wput_in c (EndsOf R xq) (startD ["bank", "made", "sort"] ds) st := by
  rintro ds st R xq ⟨B, ts, tq, n, kd, rfl, hb, hl, k⟩
  show wput_in c ⟨_, _, _, _, _⟩ [some (.hdl B.b), some n.d, some kd.d] st
  unfold wput_in
  walk_at "s"
  refine hb.f2 ?_
  refine dInNd hb.placed ?_
  walk_at "s"
  cases e : nIx n ts with
  | some i =>
    refine ifF (by rw [placed_some e]; rfl) ?_
    walk_at "s"
    refine hb.f2 ?_
    walk_at "s"
    refine dIxNd hb.placed (placed_some e) ?_
    exact k i ts st (bput_some e) hb .refl
  | none =>
    refine ifT (by rw [placed_none e]; rfl) ?_
    walk_at "s"
    refine hb.f0 ?_
    walk_at "s"
    refine dLen_h hb.made ?_
    walk_at "s"
    refine hb.f2 ?_
    walk_at "s"
    refine dSetNd hb.placed (by rw [placed_len]; simp only [sizeLine]; omega) ?_
    rw [putNK_new (placed_none e), List.length_map]
    have nd := hb.nd
    simp only [List.nodup_cons, List.mem_cons, List.not_mem_nil, or_false, not_or, List.nodup_nil, and_true, not_false_eq_true] at nd
    obtain ⟨⟨n1, n2, n3, n4⟩, ⟨n5, n6, n7⟩, ⟨n8, n9⟩, n10⟩ := nd
    generalize hs1 : st.set B.p (.dN (placedF 0 ts ++ [(n.nk, .int (ts.length : Int))])) = st1
    have o1 : st1[B.b]? = some (.ins c.Bank [(0, .hdl B.m), (1, .hdl B.s), (2, .hdl B.p), (3, .hdl B.q)]) := by rw [← hs1, List.getElem?_set_ne (Ne.symm n3)]; exact hb.obj
    have m1 : st1[B.m]? = some (.lst (ts.map fun t => t.1.d)) := by rw [← hs1, List.getElem?_set_ne (Ne.symm n6)]; exact hb.made
    have s1 : st1[B.s]? = some (.lst (ts.map fun t => t.2.d)) := by rw [← hs1, List.getElem?_set_ne (Ne.symm n8)]; exact hb.sorts
    have p1 : st1[B.p]? = some (.dN (placedF 0 ts ++ [(n.nk, .int (ts.length : Int))])) := by rw [← hs1]; exact setSame hb.placed
    have q1 : st1[B.q]? = some (.dK (calledF 0 tq)) := by rw [← hs1, List.getElem?_set_ne n10]; exact hb.called
    have f1 : Fx B.fp st st1 := by rw [← hs1]; exact Fx.refl.set (.inl (by simp [BH.fp]))
    walk_at "s"
    refine onO_h o1 ⟨_, rfl, ?_⟩
    refine ⟨isLD_h m1, ?_⟩
    walk_at "s"
    refine dApp_h m1 (by simp only [List.length_map, sizeLine]; omega) ?_
    generalize hs2 : st1.set B.m (.lst ((ts.map fun t => t.1.d) ++ [n.d])) = st2
    have o2 : st2[B.b]? = some (.ins c.Bank [(0, .hdl B.m), (1, .hdl B.s), (2, .hdl B.p), (3, .hdl B.q)]) := by rw [← hs2, List.getElem?_set_ne (Ne.symm n1)]; exact o1
    have m2 : st2[B.m]? = some (.lst ((ts.map fun t => t.1.d) ++ [n.d])) := by rw [← hs2]; exact setSame m1
    have s2 : st2[B.s]? = some (.lst (ts.map fun t => t.2.d)) := by rw [← hs2, List.getElem?_set_ne n5]; exact s1
    have p2 : st2[B.p]? = some (.dN (placedF 0 ts ++ [(n.nk, .int (ts.length : Int))])) := by rw [← hs2, List.getElem?_set_ne n6]; exact p1
    have q2 : st2[B.q]? = some (.dK (calledF 0 tq)) := by rw [← hs2, List.getElem?_set_ne n7]; exact q1
    have f2 : Fx B.fp st st2 := by rw [← hs2]; exact f1.set (.inl (by simp [BH.fp]))
    walk_at "s"
    refine onO_h o2 ⟨_, rfl, ?_⟩
    refine ⟨isLD_h s2, ?_⟩
    walk_at "s"
    refine dApp_h s2 (by simp only [List.length_map, sizeLine]; omega) ?_
    generalize hs3 : st2.set B.s (.lst ((ts.map fun t => t.2.d) ++ [kd.d])) = st3
    have o3 : st3[B.b]? = some (.ins c.Bank [(0, .hdl B.m), (1, .hdl B.s), (2, .hdl B.p), (3, .hdl B.q)]) := by rw [← hs3, List.getElem?_set_ne (Ne.symm n2)]; exact o2
    have m3 : st3[B.m]? = some (.lst ((ts.map fun t => t.1.d) ++ [n.d])) := by rw [← hs3, List.getElem?_set_ne (Ne.symm n5)]; exact m2
    have s3 : st3[B.s]? = some (.lst ((ts.map fun t => t.2.d) ++ [kd.d])) := by rw [← hs3]; exact setSame s2
    have p3 : st3[B.p]? = some (.dN (placedF 0 ts ++ [(n.nk, .int (ts.length : Int))])) := by rw [← hs3, List.getElem?_set_ne n8]; exact p2
    have q3 : st3[B.q]? = some (.dK (calledF 0 tq)) := by rw [← hs3, List.getElem?_set_ne n9]; exact q2
    have f3 : Fx B.fp st st3 := by rw [← hs3]; exact f2.set (.inl (by simp [BH.fp]))
    have hp : placedF 0 (ts ++ [(n, kd)]) = placedF 0 ts ++ [(n.nk, .int (ts.length : Int))] := by rw [placed_app]; simp
    have hb3 : BankQ c B (ts ++ [(n, kd)]) tq st3 := ⟨o3, by rw [m3, List.map_append]; rfl, by rw [s3, List.map_append]; rfl, by rw [p3, hp], q3, hb.nd⟩
    walk_at "s"
    refine hb3.f2 ?_
    walk_at "s"
    refine dIxNd hb3.placed (placed_some (nIx_app e)) ?_
    exact k _ _ st3 (bput_none e) hb3 f3
theorem sem_Bank_DinitD (c : Cl) : ∀ ds st R xq, spBank_DinitD c ds st R xq → wBank_DinitD c (EndsOf R xq) (startD ["self"] ds) st := by
  rintro ds st R xq ⟨b, rfl, hb, k⟩
  show wBank_DinitD c ⟨_, _, _, _, _⟩ [some (.hdl b)] st
  unfold wBank_DinitD
  have lb := ltOf hb
  walk_at "s"
  refine onO_h (appL hb) ⟨by decide, ?_⟩
  generalize hs1 : (st ++ [Cell.lst []]).set b (.ins c.Bank (putN 0 (.hdl st.length) [])) = st1
  have l1 : st1.length = st.length + 1 := by rw [← hs1]; simp
  have o1 : st1[b]? = some (.ins c.Bank [(0, .hdl st.length)]) := by rw [← hs1]; exact setSame (appL hb)
  have m1 : st1[st.length]? = some (.lst []) := by rw [← hs1, List.getElem?_set_ne (by omega)]; exact appN
  have f1 : Fx [b] st st1 := by rw [← hs1]; exact Fx.refl.app.set (.inl (by simp))
  walk_at "s"
  refine onO_h (appL o1) ⟨by simp, ?_⟩
  rw [l1]
  generalize hs2 : (st1 ++ [Cell.lst []]).set b (.ins c.Bank (putN 1 (.hdl (st.length + 1)) [(0, .hdl st.length)])) = st2
  have l2 : st2.length = st.length + 2 := by rw [← hs2]; simp [l1]
  have o2 : st2[b]? = some (.ins c.Bank [(0, .hdl st.length), (1, .hdl (st.length + 1))]) := by rw [← hs2]; exact setSame (appL o1)
  have m2 : st2[st.length]? = some (.lst []) := by rw [← hs2, List.getElem?_set_ne (by omega)]; exact appL m1
  have n2 : st2[st.length + 1]? = some (.lst []) := by rw [← hs2, List.getElem?_set_ne (by omega), ← l1]; exact appN
  have f2 : Fx [b] st st2 := by rw [← hs2]; exact f1.app.set (.inl (by simp))
  walk_at "s"
  refine onO_h (appL o2) ⟨by simp, ?_⟩
  rw [l2]
  generalize hs3 : (st2 ++ [Cell.dN []]).set b (.ins c.Bank (putN 2 (.hdl (st.length + 2)) [(0, .hdl st.length), (1, .hdl (st.length + 1))])) = st3
  have l3 : st3.length = st.length + 3 := by rw [← hs3]; simp [l2]
  have o3 : st3[b]? = some (.ins c.Bank [(0, .hdl st.length), (1, .hdl (st.length + 1)), (2, .hdl (st.length + 2))]) := by rw [← hs3]; exact setSame (appL o2)
  have m3 : st3[st.length]? = some (.lst []) := by rw [← hs3, List.getElem?_set_ne (by omega)]; exact appL m2
  have n3 : st3[st.length + 1]? = some (.lst []) := by rw [← hs3, List.getElem?_set_ne (by omega)]; exact appL n2
  have p3 : st3[st.length + 2]? = some (.dN []) := by rw [← hs3, List.getElem?_set_ne (by omega), ← l2]; exact appN
  have f3 : Fx [b] st st3 := by rw [← hs3]; exact f2.app.set (.inl (by simp))
  walk_at "s"
  refine onO_h (appL o3) ⟨by simp, ?_⟩
  rw [l3]
  generalize hs4 : (st3 ++ [Cell.dK []]).set b (.ins c.Bank (putN 3 (.hdl (st.length + 3)) [(0, .hdl st.length), (1, .hdl (st.length + 1)), (2, .hdl (st.length + 2))])) = st4
  have l4 : st4.length = st.length + 4 := by rw [← hs4]; simp [l3]
  have o4 : st4[b]? = some (.ins c.Bank [(0, .hdl st.length), (1, .hdl (st.length + 1)), (2, .hdl (st.length + 2)), (3, .hdl (st.length + 3))]) := by rw [← hs4]; exact setSame (appL o3)
  have m4 : st4[st.length]? = some (.lst []) := by rw [← hs4, List.getElem?_set_ne (by omega)]; exact appL m3
  have n4 : st4[st.length + 1]? = some (.lst []) := by rw [← hs4, List.getElem?_set_ne (by omega)]; exact appL n3
  have p4 : st4[st.length + 2]? = some (.dN []) := by rw [← hs4, List.getElem?_set_ne (by omega)]; exact appL p3
  have q4 : st4[st.length + 3]? = some (.dK []) := by rw [← hs4, List.getElem?_set_ne (by omega), ← l3]; exact appN
  have f4 : Fx [b] st st4 := by rw [← hs4]; exact f3.app.set (.inl (by simp))
  exact k st4 f4 ⟨o4, m4, n4, p4, q4, by simp; omega⟩ l4
theorem sem_Bank_kind (c : Cl) : ∀ ds st R xq, spBank_kind c ds st R xq → wBank_kind c (EndsOf R xq) (startD ["self", "term"] ds) st := by
  rintro ds st R xq ⟨B, ts, i, rfl, hb, hi, k⟩
  show wBank_kind c ⟨_, _, _, _, _⟩ [some (.hdl B.b), some (.int i)] st
  unfold wBank_kind
  walk_at "s"
  refine ⟨B, ts, i, rfl, hb, hi, ?_⟩
  walk_at "s"
  refine hb.f1 ?_
  walk_at "s"
  refine dIx_h hb.sorts (atI_nat (d := (kindAt ts i).d) ?_) k
  simp [kindAt, hi]
theorem sem_Bank_node (c : Cl) : ∀ ds st R xq, spBank_node c ds st R xq → wBank_node c (EndsOf R xq) (startD ["self", "term"] ds) st := by
  rintro ds st R xq ⟨B, ts, i, t, rfl, hb, hi, k⟩
  show wBank_node c ⟨_, _, _, _, _⟩ [some (.hdl B.b), some (.int i)] st
  unfold wBank_node
  walk_at "s"
  refine ⟨B, ts, i, rfl, hb, ltOf hi, ?_⟩
  walk_at "s"
  refine hb.f0 ?_
  walk_at "s"
  refine dIx_h hb.made (atI_nat (d := t.1.d) ?_) k
  simp [hi]
theorem sem_as_kind (c : Cl) : ∀ ds st R xq, spas_kind c ds st R xq → was_kind c (EndsOf R xq) (startD ["thing"] ds) st := by
  rintro ds st R xq ⟨d, kd, rfl, hd, hok, k⟩
  show was_kind c ⟨_, _, _, _, _⟩ [some d] st
  unfold was_kind
  have ty : ∃ t, tyD st d = some t ∧ kitBs t ["tuple", "list"] = some true := by
    rcases hd with rfl | rfl
    · exact ⟨"tuple", rfl, rfl⟩
    · exact ⟨"list", rfl, rfl⟩
  obtain ⟨t, ht1, ht2⟩ := ty
  have tup : ∀ {R : DQ}, R kd.d st → dTuple [d] st R := by
    intro R h
    rcases hd with rfl | rfl
    · exact dTuple_t h
    · exact dTuple_l h
  have len : ∀ {R : DQ}, R (.int kd.its.length) st → dLen [d] st R := by
    intro R h
    rcases hd with rfl | rfl
    · exact dLen_t h
    · exact dLen_l h
  have ix : ∀ {R : DQ} {i : Int} {x : D}, atI kd.its i = some x → R x st → dIx d (.int i) st R := by
    intro R i x e h
    rcases hd with rfl | rfl
    · exact dIx_t e h
    · exact dIx_l e h
  walk_at "s"
  refine ⟨rfl, t, true, ht1, ht2, ?_⟩
  walk_at "s"
  refine tup ?_
  walk_at "s"
  refine dEQ_kd (b := .truth) ?_
  walk_at "s"
  cases kd with
  | truth =>
    refine ifT rfl ?_
    walk_at "s"
    exact k
  | word n =>
    refine ifF (by simp [xorB]) ?_
    walk_at "s"
    refine len ?_
    walk_at "s"
    refine ix at0 ?_
    walk_at "s"
    refine ix at1 ?_
    walk_at "s"
    refine ⟨.int n, 1, 8, rfl, rfl, ?_⟩
    walk_at "s"
    obtain ⟨h1, h2⟩ := hok
    refine ifT (by simp [isW]; omega) ?_
    walk_at "s"
    exact tup k
  | arr p n =>
    refine ifF (by simp [xorB]) ?_
    walk_at "s"
    refine len ?_
    walk_at "s"
    refine len ?_
    walk_at "s"
    refine ix at0 ?_
    walk_at "s"
    refine ix at1 ?_
    walk_at "s"
    refine ⟨.int p, 1, 3, rfl, rfl, ?_⟩
    walk_at "s"
    obtain ⟨h1, h2, h3, h4⟩ := hok
    refine ifF (by simp [isW]; omega) ?_
    walk_at "s"
    refine ix at2 ?_
    walk_at "s"
    refine ⟨.int n, 1, 8, rfl, rfl, ?_⟩
    walk_at "s"
    refine ifT (by simp [isW]; omega) ?_
    walk_at "s"
    exact tup k

/-! ### rules keep kinds well -/
theorem isW_int {i a b : Int} : isW (.int i) a b = true ↔ a ≤ i ∧ i ≤ b := by simp [isW]
theorem kindOf_ok {w : Str} {ks : List Kd} {ms : List D} {k : Kd} (h : kindOf w ks ms = some k) (hk : ∀ q ∈ ks, q.ok) : k.ok := by
  have words : ∀ {ks : List Kd} {k : Kd}, kWords ks ms = some k → (∀ q ∈ ks, q.ok) → k.ok := by
    intro ks k e hk
    unfold kWords at e
    split at e
    · rename_i n b
      split at e
      · cases e; exact hk (.word n) (by simp)
      · cases e
    · cases e
  have key : ∀ p ∈ wordRules, ∀ k, p.2 ks ms = some k → k.ok := by
    intro p hp k e
    simp only [wordRules, List.mem_cons, List.not_mem_nil, or_false] at hp
    have c1 : p.2 = kNothing ∨ p.2 = kMarks ∨ p.2 = kTruth ∨ p.2 = kTruths ∨ p.2 = kAlike ∨ p.2 = kLess ∨ p.2 = kChoice ∨ p.2 = kWord ∨ p.2 = kWords ∨ p.2 = kJoined ∨ p.2 = kCut ∨ p.2 = kRead ∨ p.2 = kWritten := by
      rcases hp with h | h | h | h | h | h | h | h | h | h | h | h | h | h | h | h | h | h | h | h | h | h | h | h | h | h <;> subst h <;> simp
    rcases c1 with h | h | h | h | h | h | h | h | h | h | h | h | h <;> rw [h] at e
    · unfold kNothing at e; split at e <;> cases e; trivial
    · unfold kMarks at e
      split at e
      · rename_i a b
        split at e
        · rename_i q
          cases e
          have := isW_int.mp q.1
          show 1 ≤ a.toNat ∧ a.toNat ≤ 8
          omega
        · cases e
      · cases e
    · unfold kTruth at e; split at e <;> cases e; trivial
    · unfold kTruths at e; split at e <;> cases e; trivial
    · unfold kAlike at e
      split at e
      · split at e <;> cases e; trivial
      · cases e
    · unfold kLess at e
      rw [Option.map_eq_some_iff] at e
      obtain ⟨_, _, rfl⟩ := e
      trivial
    · unfold kChoice at e
      split at e
      · rename_i a b ms
        split at e
        · cases e; exact hk _ (by simp)
        · cases e
      · cases e
    · unfold kWord at e
      split at e
      · rename_i n ms
        split at e
        · cases e; exact hk _ (by simp)
        · cases e
      · cases e
    · exact words e hk
    · unfold kJoined at e
      split at e
      · rename_i n m
        split at e
        · rename_i q
          cases e
          have h1 : (Kd.word n).ok := hk _ (by simp)
          have h2 := q.2
          exact ⟨Nat.le_trans h1.1 (Nat.le_add_right _ _), h2⟩
        · cases e
      · cases e
    · unfold kCut at e
      split at e
      · rename_i n hh ll
        split at e
        · rename_i q
          cases e
          have h1 : (Kd.word n).ok := hk _ (by simp)
          obtain ⟨h2, h3⟩ := h1
          have h4 := isW_int.mp q.1
          have h5 := isW_int.mp q.2
          show 1 ≤ (hh - ll + 1).toNat ∧ (hh - ll + 1).toNat ≤ 8
          omega
        · cases e
      · cases e
    · unfold kRead at e
      split at e
      · rename_i p n q
        split at e
        · cases e
          have h1 : (Kd.arr p n).ok := hk _ (by simp)
          exact ⟨h1.2.2.1, h1.2.2.2⟩
        · cases e
      · cases e
    · unfold kWritten at e
      split at e
      · rename_i p n q r ms
        split at e
        · cases e
          exact hk _ (by simp)
        · cases e
      · cases e
  unfold kindOf at h
  rw [Option.bind_eq_some_iff] at h
  obtain ⟨g, e1, e2⟩ := h
  unfold ruleOf at e1
  have hm : ∀ {l : List (Str × (List Kd → List D → Option Kd))}, l.lookup w = some g → (w, g) ∈ l := by
    intro l
    induction l with
    | nil => intro e; simp at e
    | cons p l ih =>
      intro e
      simp only [List.lookup] at e
      split at e
      · rename_i q
        cases e
        have : w = p.1 := by simpa using q
        subst this; simp
      · exact List.mem_cons_of_mem _ (ih e)
  exact key _ (hm e1) k e2
/-! ### a bank with one more term -/
theorem kindAt_app {ts l : Ts} {i : Nat} (h : i < ts.length) : kindAt (ts ++ l) i = kindAt ts i := by
  unfold kindAt; rw [List.getElem?_append_left h]
theorem ndAt_app {ts l : Ts} {i : Nat} (h : i < ts.length) : ndAt (ts ++ l) i = ndAt ts i := by
  unfold ndAt; rw [List.getElem?_append_left h]
theorem ndAt_last {ts : Ts} {t : Nd × Kd} : ndAt (ts ++ [t]) ts.length = some t.1 := by simp [ndAt]
theorem ndAt_lt {ts : Ts} {i : Nat} {n : Nd} (h : ndAt ts i = some n) : i < ts.length := by
  unfold ndAt at h
  rw [Option.map_eq_some_iff] at h
  obtain ⟨t, e, _⟩ := h
  exact ltOf e
theorem BankOk.kind {ts : Ts} (h : BankOk ts) {i : Nat} (hi : i < ts.length) : (kindAt ts i).ok := by
  have e : ts[i]? = some ts[i] := by simp [hi]
  have := h.ok _ _ e
  have e2 : kindAt ts i = ts[i].2 := by simp [kindAt, hi]
  rw [e2]
  revert this
  rcases ts[i] with ⟨n, k⟩
  cases n with
  | nm x k' => rintro ⟨rfl, h1, _⟩; exact h1
  | ap w ps ms => rintro ⟨_, _, h1⟩; exact h1
theorem NdOk.app {ts l : Ts} {i : Nat} {t : Nd × Kd} (h : NdOk ts i t) (hi : i ≤ ts.length) : NdOk (ts ++ l) i t := by
  rcases t with ⟨n, k⟩
  cases n with
  | nm x k' => exact h
  | ap w ps ms =>
    obtain ⟨h1, h2, h3⟩ := h
    refine ⟨h1, ?_, h3⟩
    rw [← h2]
    congr 1
    apply List.map_congr_left
    intro p hp
    exact kindAt_app (Nat.lt_of_lt_of_le (h1 p hp) hi)
theorem nIx_none_mem {n : Nd} {ts : Ts} (h : nIx n ts = none) : n ∉ ts.map (·.1) := by
  intro q
  obtain ⟨t, ht, rfl⟩ := List.mem_map.mp q
  obtain ⟨i, hi, e⟩ := List.mem_iff_getElem.mp ht
  exact nIx_none h i (by simp [ndAt, hi, e])
theorem BankOk.more {ts : Ts} (h : BankOk ts) {n : Nd} {k : Kd} (hl : ts.length < 100000) (hn : nIx n ts = none) (ho : NdOk ts ts.length (n, k)) (hx : ∀ i x k' k'', n = .nm x k' → ndAt ts i ≠ some (.nm x k'')) : BankOk (ts ++ [(n, k)]) := by
  refine ⟨by simp; omega, ?_, ?_, ?_⟩
  · rw [List.map_append, List.nodup_append]
    refine ⟨h.nd, by simp, fun a ha b hb => ?_⟩
    simp at hb; subst hb
    intro e; subst e
    exact nIx_none_mem hn ha
  · intro i t e
    by_cases hi : i < ts.length
    · rw [List.getElem?_append_left hi] at e
      exact (h.ok i t e).app (by omega)
    · have := ltOf e
      simp at this
      have hi' : i = ts.length := by omega
      subst hi'
      simp at e; subst e
      exact ho.app (Nat.le_refl _)
  · intro i j x k1 k2 e1 e2
    have l1 := ndAt_lt e1
    have l2 := ndAt_lt e2
    simp at l1 l2
    by_cases hi : i < ts.length
    · rw [ndAt_app hi] at e1
      by_cases hj : j < ts.length
      · rw [ndAt_app hj] at e2
        exact h.nms i j x k1 k2 e1 e2
      · have : j = ts.length := by omega
        subst this
        rw [ndAt_last] at e2
        cases e2
        exact absurd e1 (hx _ _ _ _ rfl)
    · have : i = ts.length := by omega
      subst this
      rw [ndAt_last] at e1
      cases e1
      by_cases hj : j < ts.length
      · rw [ndAt_app hj] at e2
        exact absurd e2 (hx _ _ _ _ rfl)
      · omega
theorem BankOk.put {ts ts' : Ts} (h : BankOk ts) {n : Nd} {k : Kd} {i : Nat} (hl : ts.length < 100000) (ho : NdOk ts ts.length (n, k)) (hx : ∀ i x k' k'', n = .nm x k' → ndAt ts i = some (.nm x k'') → k'' = k') (e : bput ts n k = (i, ts')) : BankOk ts' := by
  cases q : nIx n ts with
  | some j => rw [bput_some q] at e; cases e; exact h
  | none =>
    rw [bput_none q] at e; cases e
    refine h.more hl q ho ?_
    intro i x k' k'' e1 e2
    obtain rfl := hx i x k' k'' e1 e2
    exact nIx_none q i (e1 ▸ e2)
theorem called_app {t : Nd × Kd} : ∀ {i : Nat} {ts : Ts}, calledF i (ts ++ [t]) = calledF i ts ++ calledF (i + ts.length) [t]
  | i, [] => by simp [calledF]
  | i, (.nm x k, k') :: ts => by
    have : i + (ts.length + 1) = i + 1 + ts.length := by omega
    simp only [List.cons_append, calledF, called_app (i := i + 1) (ts := ts), List.length_cons, this]
  | i, (.ap w ps ms, k') :: ts => by
    have : i + (ts.length + 1) = i + 1 + ts.length := by omega
    simp only [List.cons_append, calledF, called_app (i := i + 1) (ts := ts), List.length_cons, this]
theorem called_mem {p : Key × D} : ∀ {i : Nat} {ts : Ts}, p ∈ calledF i ts → ∃ j x k, ndAt ts j = some (.nm x k) ∧ p = (.inr x, .int ((i + j : Nat) : Int))
  | i, [], h => by simp [calledF] at h
  | i, (.nm x k, k') :: ts, h => by
    simp only [calledF, List.mem_cons] at h
    rcases h with rfl | h
    · exact ⟨0, x, k, rfl, rfl⟩
    · obtain ⟨j, y, k2, e1, e2⟩ := called_mem h
      exact ⟨j + 1, y, k2, by simpa [ndAt] using e1, by rw [e2]; congr 2; omega⟩
  | i, (.ap w ps ms, k') :: ts, h => by
    simp only [calledF] at h
    obtain ⟨j, y, k2, e1, e2⟩ := called_mem h
    exact ⟨j + 1, y, k2, by simpa [ndAt] using e1, by rw [e2]; congr 2; omega⟩
theorem called_in {x : Str} {k : Kd} : ∀ {i j : Nat} {ts : Ts}, ndAt ts j = some (.nm x k) → (.inr x, .int ((i + j : Nat) : Int)) ∈ calledF i ts
  | i, j, [], h => by simp [ndAt] at h
  | i, 0, (n, k') :: ts, h => by
    have : n = .nm x k := by simpa [ndAt] using h
    subst this
    simp [calledF]
  | i, j + 1, (n, k') :: ts, h => by
    have h' : ndAt ts j = some (.nm x k) := by simpa [ndAt] using h
    have := called_in (i := i + 1) h'
    have e : i + (j + 1) = i + 1 + j := by omega
    rw [e]
    cases n with
    | nm y k2 => simp only [calledF, List.mem_cons]; exact .inr this
    | ap w ps ms => simpa only [calledF] using this
theorem valD_mem {kvs : List (Key × D)} {k : Key} {d : D} (h : valD kvs k = some d) : (k, d) ∈ kvs := by
  unfold valD at h
  rw [Option.map_eq_some_iff] at h
  obtain ⟨p, e, rfl⟩ := h
  have h1 := List.mem_of_find?_eq_some e
  have h2 := List.find?_some e
  simp at h2
  rw [← h2]; exact h1
theorem valD_nomem {kvs : List (Key × D)} {k : Key} (h : valD kvs k = none) : ∀ p ∈ kvs, p.1 ≠ k := by
  unfold valD at h
  rw [Option.map_eq_none_iff, List.find?_eq_none] at h
  intro p hp
  simpa using h p hp
theorem called_some {ts : Ts} {x : Str} {d : D} (h : valD (calledF 0 ts) (.inr x) = some d) : ∃ j k, ndAt ts j = some (.nm x k) ∧ d = .int (j : Int) := by
  obtain ⟨j, y, k, e1, e2⟩ := called_mem (valD_mem h)
  cases e2
  exact ⟨j, k, e1, by simp⟩
theorem called_none {ts : Ts} {x : Str} (h : valD (calledF 0 ts) (.inr x) = none) (i : Nat) (k : Kd) : ndAt ts i ≠ some (.nm x k) := fun e => valD_nomem h _ (called_in (i := 0) e) rfl
theorem called_at {ts : Ts} (hb : BankOk ts) {x : Str} {j : Nat} {k : Kd} (h : ndAt ts j = some (.nm x k)) : valD (calledF 0 ts) (.inr x) = some (.int (j : Int)) := by
  cases e : valD (calledF 0 ts) (.inr x) with
  | none => exact absurd h (called_none e j k)
  | some d =>
    obtain ⟨i, k', e1, rfl⟩ := called_some e
    rw [hb.nms i j x _ _ e1 h]
theorem putD_same {kvs : List (Key × D)} {k : Key} {v : D} (h : ∀ p ∈ kvs, p.1 = k → p.2 = v) (hm : ∃ p ∈ kvs, p.1 = k) : putD kvs k v = kvs := by
  unfold putD
  obtain ⟨p, hp, e⟩ := hm
  rw [if_pos (List.any_eq_true.mpr ⟨p, hp, by simp [e]⟩)]
  have : ∀ l : List (Key × D), (∀ p ∈ l, p.1 = k → p.2 = v) → l.map (fun kv => if kv.1 = k then (kv.1, v) else kv) = l := by
    intro l hl
    induction l with
    | nil => rfl
    | cons q l ih =>
      simp only [List.map_cons]
      rw [ih fun p hp => hl p (by simp [hp])]
      congr 1
      split
      · rename_i z
        rw [← hl q (by simp) z]
      · rfl
  exact this kvs h
theorem SeqA.it {F : List Nat} {st : Sto} {d : D} {xs : List D} {k : List D → (Sto → Prop) → Sto → Prop} (h : SeqA F st d xs) (hk : ∀ inv : Sto → Prop, (∀ st', Fx F st st' → inv st') → k xs inv st) : dIt d st k := by
  rcases h with rfl | rfl | ⟨j, h1, rfl, h3⟩
  · exact dIt_l (hk _ fun _ _ => trivial)
  · exact dIt_t (hk _ fun _ _ => trivial)
  · exact dIt_h h3 (hk _ fun st' f => f.at h3 h1)
theorem SeqA.tup {F : List Nat} {st : Sto} {R : DQ} {d : D} {xs : List D} (h : SeqA F st d xs) (hk : R (.tup xs) st) : dTuple [d] st R := by
  rcases h with rfl | rfl | ⟨j, h1, rfl, h3⟩
  · exact dTuple_l hk
  · exact dTuple_t hk
  · simp only [dTuple, onQ_hdl h3]; exact hk
theorem SeqA.list {F : List Nat} {st : Sto} {R : DQ} {d : D} {xs : List D} (h : SeqA F st d xs) (hk : R (.hdl st.length) (st ++ [.lst xs])) : dListH [d] st R := by
  rcases h with rfl | rfl | ⟨j, h1, rfl, h3⟩
  · exact dListH_l hk
  · exact dListH_t hk
  · exact dListH_h h3 hk
theorem sem_Bank_make (c : Cl) : ∀ ds st R xq, spBank_make c ds st R xq → wBank_make c (EndsOf R xq) (startD ["self", "word", "parts", "marks", "part", "sort"] ds) st := by
  rintro ds st R xq ⟨B, ts, w, dp, dm, ps, ms, kd, rfl, hb, ho, hl, sp, sm, lp, lm, hp, hk, k⟩
  show wBank_make c ⟨_, _, _, _, _⟩ [some (.hdl B.b), some (.str w), some dp, some dm, none, none] st
  unfold wBank_make
  obtain ⟨g, e1, e2⟩ : ∃ g, ruleOf w = some g ∧ g (ps.map (kindAt ts)) (dIs ms) = some kd := by
    unfold kindOf at hk
    exact Option.bind_eq_some_iff.mp hk
  walk_at "s"
  refine ifF (by rw [rules_some, e1]; rfl) ?_
  walk_at "s"
  refine sp.it fun inv hinv => ?_
  refine forD_ind (fun xs ρ st' => st' = st ∧ (∃ left : List Nat, xs = dNs left ∧ ∀ p ∈ left, p < ts.length) ∧ ∃ z, ρ = [some (.hdl B.b), some (.str w), some dp, some dm, z, none]) ?_ ?_ _ _ _ ⟨rfl, ⟨ps, rfl, hp⟩, none, rfl⟩
  · rintro ρ st' ⟨rfl, _, z, rfl⟩
    refine ⟨hinv _ .refl, ?_⟩
    walk_at "s"
    refine sp.it fun inv hinv => ?_
    refine lcD_ind (fun xs acc st'' => st'' = st' ∧ ∃ done left : List Nat, ps = done ++ left ∧ xs = dNs left ∧ acc = done.map fun p => (kindAt ts p).d) ?_ ?_ _ _ _ ⟨rfl, [], ps, rfl, rfl, rfl⟩
    · rintro acc st'' ⟨rfl, done, left, e3, e4, rfl⟩
      have : left = [] := by cases left with | nil => rfl | cons _ _ => cases e4
      subst this
      rw [List.append_nil] at e3
      subst e3
      refine ⟨hinv _ .refl, ?_⟩
      walk_at "s"
      refine sm.tup ?_
      walk_at "s"
      refine ⟨w, ps.map (kindAt ts), dIs ms, g, by rw [List.map_map]; rfl, e1, by rw [List.all_map]; simp [Function.comp_def, flatM], ?_⟩
      rw [e2]
      walk_at "s"
      refine sp.tup ?_
      walk_at "s"
      refine sm.tup ?_
      walk_at "s"
      refine ⟨B, ts, ts, .ap w ps ms, kd, rfl, hb, hl, ?_⟩
      intro i ts' st2 e5 hb2 f2
      have hkok := kindOf_ok hk (fun q hq => by
        obtain ⟨p, hp', rfl⟩ := List.mem_map.mp hq
        exact ho.kind (hp p hp'))
      refine k i ts' st2 e5 ⟨hb2.obj, hb2.made, hb2.sorts, hb2.placed, ?_, hb2.nd⟩ (ho.put (n := .ap w ps ms) (k := kd) hl ⟨hp, hk, hkok⟩ (fun _ _ _ _ e => by cases e) e5) f2
      rw [hb2.called]
      cases q : nIx (.ap w ps ms) ts with
      | some j => rw [bput_some q] at e5; cases e5; rfl
      | none => rw [bput_none q] at e5; cases e5; rw [called_app]; simp [calledF]
    · rintro y xs acc st'' K ⟨rfl, done, left, e3, e4, rfl⟩ hK
      cases left with
      | nil => cases e4
      | cons p left =>
      cases e4
      refine ⟨hinv _ .refl, ?_⟩
      walk_at "s"
      refine hb.f1 ?_
      walk_at "s"
      have hpl : p < ts.length := hp p (by rw [e3]; simp)
      refine dIx_h hb.sorts (atI_nat (d := (kindAt ts p).d) (by simp [kindAt, hpl])) ?_
      refine ⟨?_, hK _ _ ⟨rfl, done ++ [p], left, by rw [e3]; simp, rfl, by simp⟩⟩
      have := congrArg List.length e3
      simp at this
      simp only [List.length_map, sizeLine]; omega
  · rintro x xs ρ st' K ⟨rfl, ⟨left, e3, hleft⟩, z, rfl⟩ hK
    cases left with
    | nil => cases e3
    | cons p left =>
    cases e3
    refine ⟨hinv _ .refl, ?_⟩
    walk_at "s"
    refine ⟨B, ts, p, rfl, hb, hleft p (by simp), ?_⟩
    walk_at "s"
    exact hK _ _ ⟨rfl, ⟨left, rfl, fun q hq => hleft q (by simp [hq])⟩, _, rfl⟩
theorem dIN_k {st : Sto} {R : DQ} {neg : Bool} {j : Nat} {kvs : List (Key × D)} {x : D} {key : Key} (e : st[j]? = some (.dK kvs)) (q : toK x = some key) (h : R (.bl (if neg then !(valD kvs key).isSome else (valD kvs key).isSome)) st) : dIN neg x (.hdl j) st R := by
  simp only [dIN, dr, e]
  exact onK_h e ⟨key, q, h⟩
theorem dIx_k {st : Sto} {R : DQ} {j : Nat} {kvs : List (Key × D)} {y d : D} {key : Key} (e : st[j]? = some (.dK kvs)) (q : toK y = some key) (v : valD kvs key = some d) (h : R d st) : dIx (.hdl j) y st R := by
  have e1 : dr st (.hdl j) = .hdl j := by simp only [dr, e]
  unfold dIx
  rw [e1]
  show onK st (.hdl j) _
  rw [onK_hdl e]
  exact ⟨key, d, q, v, h⟩
theorem putD_newB {kvs : List (Key × D)} {k : Key} {v : D} (h : valD kvs k = none) : putD kvs k v = kvs ++ [(k, v)] := by
  unfold putD
  have : (kvs.any fun kv => decide (kv.1 = k)) = false := by
    rw [List.any_eq_false]
    intro p hp
    simpa using valD_nomem h p hp
  rw [this]; rfl
theorem sem_Bank_name (c : Cl) : ∀ ds st R xq, spBank_name c ds st R xq → wBank_name c (EndsOf R xq) (startD ["self", "text", "kind", "sort"] ds) st := by
  rintro ds st R xq ⟨B, ts, x, d, kd, rfl, hd, hok, hb, ho, hl, hx, hu, k⟩
  show wBank_name c ⟨_, _, _, _, _⟩ [some (.hdl B.b), some (.str x), some d, none] st
  unfold wBank_name
  walk_at "s"
  refine ⟨d, kd, rfl, hd, hok, ?_⟩
  walk_at "s"
  have hxl : x.length ≤ 8 := by
    unfold isNm at hx
    simp only [Bool.and_eq_true, decide_eq_true_eq] at hx
    exact hx.1.1.1.1.2
  refine ⟨x, rfl, by omega, ?_⟩
  rw [hx]
  walk_at "s"
  refine hb.f3 ?_
  walk_at "s"
  refine dIN_k hb.called rfl ?_
  have hcase : valD (calledF 0 ts) (.inr x) = none ∨ ∃ j : Nat, valD (calledF 0 ts) (.inr x) = some (.int (j : Int)) ∧ ndAt ts j = some (.nm x kd) := by
    cases e : valD (calledF 0 ts) (.inr x) with
    | none => exact .inl rfl
    | some d' =>
      obtain ⟨j, k', h1, rfl⟩ := called_some e
      obtain rfl := hu j k' h1
      exact .inr ⟨j, rfl, h1⟩
  rcases hcase with e | ⟨j, e, h1⟩
  focus
    rw [e]
    walk_at "s"
  rotate_left
  focus
    rw [e]
    walk_at "s"
    refine hb.f1 ?_
    walk_at "s"
    refine hb.f3 ?_
    walk_at "s"
    refine dIx_k hb.called (key := .inr x) rfl e ?_
    have hj := ndAt_lt h1
    have hkj : kindAt ts j = kd := by
      have e2 : ts[j]? = some ts[j] := by simp [hj]
      have := ho.ok _ _ e2
      have e3 : ts[j].1 = .nm x kd := by simpa [ndAt, hj] using h1
      have e4 : kindAt ts j = ts[j].2 := by simp [kindAt, hj]
      rw [e4]
      revert this e3
      rcases ts[j] with ⟨n, kk⟩
      rintro h rfl
      exact h.1
    refine dIx_h hb.sorts (atI_nat (d := (kindAt ts j).d) (by simp [kindAt, hj])) ?_
    walk_at "s"
    rw [hkj]
    refine dEQ_kd ?_
    walk_at "s"
    refine ifF (by simp [xorB]) ?_
    walk_at "s"
  all_goals
    refine ⟨B, ts, ts, .nm x kd, kd, rfl, hb, hl, ?_⟩
    intro i ts' st2 e5 hb2 f2
    walk_at "s"
    refine hb2.f3 ?_
    walk_at "s"
    have hok' : BankOk ts' := ho.put (n := .nm x kd) (k := kd) hl ⟨rfl, hok, hx⟩ (fun i y k' k'' e e' => by cases e; exact hu i _ e') e5
    have hlen : (calledF 0 ts).length ≤ ts.length := by
      have : ∀ i (ts : Ts), (calledF i ts).length ≤ ts.length := by
        intro i ts
        induction ts generalizing i with
        | nil => exact Nat.le_refl _
        | cons t ts ih =>
          rcases t with ⟨n, k⟩
          cases n with
          | nm y k' => simp only [calledF, List.length_cons]; have := ih (i + 1); omega
          | ap w ps ms => simp only [calledF, List.length_cons]; have := ih (i + 1); omega
      exact this 0 ts
    refine dSet_k hb2.called (by simp only [sizeLine]; omega) (key := .inr x) rfl ?_
    have hat : ndAt ts' i = some (.nm x kd) := by
      cases q : nIx (.nm x kd) ts with
      | some j => rw [bput_some q] at e5; cases e5; exact nIx_some q
      | none => rw [bput_none q] at e5; cases e5; exact ndAt_last
    have hc : putD (calledF 0 ts) (.inr x) (.int i) = calledF 0 ts' := by
      cases q : nIx (.nm x kd) ts with
      | some j =>
        rw [bput_some q] at e5; cases e5
        refine putD_same ?_ ⟨_, called_in (i := 0) hat, rfl⟩
        intro p hp e
        obtain ⟨j', y, k', h1, rfl⟩ := called_mem hp
        cases e
        rw [ho.nms _ _ x _ _ h1 hat]; simp
      | none =>
        rw [bput_none q] at e5; cases e5
        rw [called_app, putD_newB]
        · simp [calledF]
        · cases e6 : valD (calledF 0 ts) (.inr x) with
          | none => rfl
          | some d' =>
            obtain ⟨j, k', h1, _⟩ := called_some e6
            obtain rfl := hu j k' h1
            exact absurd h1 (nIx_none q _)
    rw [hc]
    have nd := hb.nd
    simp only [List.nodup_cons, List.mem_cons, List.not_mem_nil, or_false, not_or, List.nodup_nil, and_true, not_false_eq_true] at nd
    obtain ⟨⟨n1, n2, n3, n4⟩, ⟨n5, n6, n7⟩, ⟨n8, n9⟩, n10⟩ := nd
    have hb3 : BankAt c B ts' (st2.set B.q (.dK (calledF 0 ts'))) := ⟨by rw [List.getElem?_set_ne (Ne.symm n4)]; exact hb2.obj, by rw [List.getElem?_set_ne (Ne.symm n7)]; exact hb2.made, by rw [List.getElem?_set_ne (Ne.symm n9)]; exact hb2.sorts, by rw [List.getElem?_set_ne (Ne.symm n10)]; exact hb2.placed, setSame hb2.called, hb2.nd⟩
    walk_at "s"
    refine hb3.f3 ?_
    walk_at "s"
    refine dIx_k hb3.called (key := .inr x) rfl (called_at hok' hat) ?_
    exact k i ts' _ e5 hb3 hok' (f2.set (.inl (by simp [BH.fp])))
theorem calledLen : ∀ (i : Nat) (ts : Ts), (calledF i ts).length ≤ ts.length
  | _, [] => Nat.le_refl _
  | i, (.nm y k', _) :: ts => by simp only [calledF, List.length_cons]; have := calledLen (i + 1) ts; omega
  | i, (.ap w ps ms, _) :: ts => by simp only [calledF, List.length_cons]; have := calledLen (i + 1) ts; omega
/-- the names of a bank, each with its place and kind -/
theorem names_L : ∀ (i : Nat) (ts : Ts), (∀ (j : Nat) (t : Nd × Kd), ts[j]? = some t → ∀ x k, t.1 = Nd.nm x k → t.2 = k) → ∃ L : List (Str × Nat × Kd), calledF i ts = L.map (fun t => (.inr t.1, .int ((i + t.2.1 : Nat) : Int))) ∧ nmPairs ts = L.map (fun t => (t.1, t.2.2.d)) ∧ ∀ t ∈ L, t.2.1 < ts.length ∧ kindAt ts t.2.1 = t.2.2
  | _, [], _ => ⟨[], rfl, rfl, by simp⟩
  | i, (n, k') :: ts, h => by
    obtain ⟨L, e1, e2, e3⟩ := names_L (i + 1) ts fun j t e => h (j + 1) t (by simpa using e)
    have low : ∀ t ∈ L.map (fun t : Str × Nat × Kd => (t.1, t.2.1 + 1, t.2.2)), t.2.1 < ((n, k') :: ts).length ∧ kindAt ((n, k') :: ts) t.2.1 = t.2.2 := by
      intro t ht
      obtain ⟨u, hu, rfl⟩ := List.mem_map.mp ht
      obtain ⟨h1, h2⟩ := e3 u hu
      exact ⟨by simp; omega, by simpa [kindAt] using h2⟩
    have eq1 : calledF (i + 1) ts = (L.map (fun t : Str × Nat × Kd => (t.1, t.2.1 + 1, t.2.2))).map (fun t => (.inr t.1, .int ((i + t.2.1 : Nat) : Int))) := by
      rw [e1, List.map_map]
      apply List.map_congr_left
      intro t _
      have : i + 1 + t.2.1 = i + (t.2.1 + 1) := by omega
      simp only [Function.comp, this]
    have eq2 : nmPairs ts = (L.map (fun t : Str × Nat × Kd => (t.1, t.2.1 + 1, t.2.2))).map (fun t => (t.1, t.2.2.d)) := by
      rw [e2, List.map_map]; rfl
    cases n with
    | nm x k =>
      have hk : k' = k := h 0 _ rfl x k rfl
      refine ⟨(x, 0, k) :: L.map (fun t : Str × Nat × Kd => (t.1, t.2.1 + 1, t.2.2)), ?_, ?_, ?_⟩
      · simp only [calledF, List.map_cons, eq1]; simp
      · simp only [nmPairs, List.map_cons, eq2]
      · intro t ht
        rcases List.mem_cons.mp ht with rfl | ht
        · exact ⟨by simp, by simp [kindAt, hk]⟩
        · exact low t ht
    | ap w ps ms => exact ⟨_, by simp only [calledF]; exact eq1, by simp only [nmPairs]; exact eq2, low⟩
theorem sem_Bank_names (c : Cl) : ∀ ds st R xq, spBank_names c ds st R xq → wBank_names c (EndsOf R xq) (startD ["self", "text"] ds) st := by
  rintro ds st R xq ⟨B, ts, rfl, hb, ho, k⟩
  show wBank_names c ⟨_, _, _, _, _⟩ [some (.hdl B.b), none] st
  unfold wBank_names
  walk_at "s"
  refine mLockE_i hb.called fun o us => ?_
  have nd := hb.nd
  simp only [List.nodup_cons, List.mem_cons, List.not_mem_nil, or_false, not_or, List.nodup_nil, and_true, not_false_eq_true] at nd
  obtain ⟨⟨n1, n2, n3, n4⟩, ⟨n5, n6, n7⟩, ⟨n8, n9⟩, n10⟩ := nd
  have hobj : (st.set B.q (.fK o us (calledF 0 ts)))[B.b]? = some (.ins c.Bank [(0, .hdl B.m), (1, .hdl B.s), (2, .hdl B.p), (3, .hdl B.q)]) := by rw [List.getElem?_set_ne (Ne.symm n4)]; exact hb.obj
  have hso : (st.set B.q (.fK o us (calledF 0 ts)))[B.s]? = some (.lst (ts.map fun t => t.2.d)) := by rw [List.getElem?_set_ne (Ne.symm n9)]; exact hb.sorts
  have hq : (st.set B.q (.fK o us (calledF 0 ts)))[B.q]? = some (.fK o us (calledF 0 ts)) := setSame hb.called
  obtain ⟨L, e1, e2, e3⟩ := names_L 0 ts fun j t e x k q => by
    have := ho.ok j t e
    rcases t with ⟨n, k'⟩
    subst q
    exact this.1
  walk_at "s"
  refine onO_h hobj ⟨_, rfl, B.q, o, us, _, rfl, hq, ?_⟩
  have hk : ∀ t ∈ L, valD (calledF 0 ts) (.inr t.1) = some (.int (t.2.1 : Int)) := by
    intro t ht
    have hm : ((.inr t.1, .int ((0 + t.2.1 : Nat) : Int)) : Key × D) ∈ calledF 0 ts := by rw [e1]; exact List.mem_map.mpr ⟨t, ht, rfl⟩
    obtain ⟨j, y, k', h1, h2⟩ := called_mem hm
    simp only [Nat.zero_add, Prod.mk.injEq, Sum.inr.injEq, D.int.injEq] at h2
    obtain ⟨rfl, h3⟩ := h2
    rw [h3]
    exact called_at ho h1
  refine lcD_ind (fun xs acc st' => st' = st.set B.q (.fK o us (calledF 0 ts)) ∧ ∃ done left : List (Str × Nat × Kd), L = done ++ left ∧ xs = left.map (fun t => D.str t.1) ∧ acc = done.map fun t => pairD (t.1, t.2.2.d)) ?_ ?_ _ _ _ ⟨rfl, [], L, rfl, by rw [e1, List.map_map]; rfl, rfl⟩
  · rintro acc st' ⟨rfl, done, left, q1, q2, rfl⟩
    have : left = [] := by cases left with | nil => rfl | cons _ _ => cases q2
    subst this
    rw [List.append_nil] at q1
    subst q1
    refine ⟨hq, hq, ?_⟩
    rw [List.set_set]
    have : st.set B.q (.dK (calledF 0 ts)) = st := by
      apply List.ext_getElem?
      intro i
      by_cases e : B.q = i
      · subst e; rw [setSame hb.called]; exact hb.called.symm
      · rw [List.getElem?_set_ne e]
    rw [this]
    rw [e2, List.map_map] at k
    exact k
  · rintro y xs acc st' K ⟨rfl, done, left, q1, q2, rfl⟩ hK
    cases left with
    | nil => cases q2
    | cons t left =>
    cases q2
    have ht : t ∈ L := by rw [q1]; simp
    obtain ⟨h1, h2⟩ := e3 t ht
    refine ⟨hq, ?_⟩
    walk_at "s"
    refine onO_h hobj ⟨_, rfl, ?_⟩
    walk_at "s"
    refine onO_h hobj ⟨_, rfl, ?_⟩
    walk_at "s"
    refine dIxF_h hq (key := .inr t.1) rfl (hk t ht) ?_
    refine dIx_h hso (atI_nat (d := (kindAt ts t.2.1).d) (by simp [kindAt, h1])) ?_
    walk_at "s"
    refine ⟨?_, ?_⟩
    · have h3 := congrArg List.length q1
      have h4 := congrArg List.length e1
      have h5 := calledLen 0 ts
      have h6 := ho.len
      simp at h3 h4
      simp only [List.length_map, sizeLine]; omega
    · rw [h2]
      exact hK _ _ ⟨rfl, done ++ [t], left, by rw [q1]; simp, rfl, by simp [pairD]⟩

/-! ### worths: what the rules tell of parts -/
theorem ms_nil {ms : List Int} (h : (dIs ms).isEmpty = true) : ms = [] := by cases ms with | nil => rfl | cons _ _ => simp at h
theorem inv_words {ks : List Kd} {ms : List Int} {k : Kd} (h : kWords ks (dIs ms) = some k) : ∃ n, ks = [.word n, .word n] ∧ ms = [] ∧ k = .word n := by
  unfold kWords at h
  split at h
  · rename_i n b
    split at h
    · rename_i q
      cases h
      exact ⟨n, by rw [q.1], ms_nil q.2, rfl⟩
    · cases h
  · cases h
theorem inv_less {ks : List Kd} {ms : List Int} {k : Kd} (h : kLess ks (dIs ms) = some k) : ∃ n, ks = [.word n, .word n] ∧ ms = [] ∧ k = .truth := by
  unfold kLess at h
  rw [Option.map_eq_some_iff] at h
  obtain ⟨q, e, rfl⟩ := h
  obtain ⟨n, h1, h2, _⟩ := inv_words e
  exact ⟨n, h1, h2, rfl⟩
theorem inv_joined {ks : List Kd} {ms : List Int} {k : Kd} (h : kJoined ks (dIs ms) = some k) : ∃ n m, ks = [.word n, .word m] ∧ ms = [] ∧ k = .word (n + m) := by
  unfold kJoined at h
  split at h
  · rename_i n m
    split at h
    · rename_i q
      cases h
      exact ⟨n, m, rfl, ms_nil q.1, rfl⟩
    · cases h
  · cases h
theorem inv_cut {ks : List Kd} {ms : List Int} {k : Kd} (h : kCut ks (dIs ms) = some k) : ∃ (n : Nat) (a b : Int), ks = [.word n] ∧ ms = [a, b] ∧ 0 ≤ b ∧ b ≤ a ∧ a ≤ n - 1 ∧ k = .word (a - b + 1).toNat := by
  unfold kCut at h
  split at h
  · rename_i n a b e
    have e2 : ms = [a, b] := by
      match ms, e with
      | [x, y], e => simp at e; rw [e.1, e.2]
    split at h
    · rename_i q
      cases h
      have h1 := isW_int.mp q.1
      have h2 := isW_int.mp q.2
      exact ⟨n, a, b, rfl, e2, h2.1, h2.2, h1.2, rfl⟩
    · cases h
  · cases h
theorem inv_read {ks : List Kd} {ms : List Int} {k : Kd} (h : kRead ks (dIs ms) = some k) : ∃ p n, ks = [.arr p n, .word p] ∧ ms = [] ∧ k = .word n := by
  unfold kRead at h
  split at h
  · rename_i p n q
    split at h
    · rename_i z
      cases h
      exact ⟨p, n, by rw [z.2], ms_nil z.1, rfl⟩
    · cases h
  · cases h
theorem inv_written {ks : List Kd} {ms : List Int} {k : Kd} (h : kWritten ks (dIs ms) = some k) : ∃ p n, ks = [.arr p n, .word p, .word n] ∧ ms = [] ∧ k = .arr p n := by
  unfold kWritten at h
  split at h
  · rename_i p n q r
    split at h
    · rename_i z
      cases h
      exact ⟨p, n, by rw [z.2.1, z.2.2], ms_nil z.1, rfl⟩
    · cases h
  · cases h
theorem inv_nothing {ks : List Kd} {ms : List Int} {k : Kd} (h : kNothing ks (dIs ms) = some k) : ks = [] ∧ ms = [] ∧ k = .truth := by
  unfold kNothing at h
  split at h
  · rename_i q
    cases h
    exact ⟨q.1, ms_nil q.2, rfl⟩
  · cases h
theorem inv_truth {ks : List Kd} {ms : List Int} {k : Kd} (h : kTruth ks (dIs ms) = some k) : ks = [.truth] ∧ ms = [] ∧ k = .truth := by
  unfold kTruth at h
  split at h
  · rename_i q
    cases h
    exact ⟨q.1, ms_nil q.2, rfl⟩
  · cases h
theorem inv_truths {ks : List Kd} {ms : List Int} {k : Kd} (h : kTruths ks (dIs ms) = some k) : ks = [.truth, .truth] ∧ ms = [] ∧ k = .truth := by
  unfold kTruths at h
  split at h
  · rename_i q
    cases h
    exact ⟨q.1, ms_nil q.2, rfl⟩
  · cases h
theorem inv_marks {ks : List Kd} {ms : List Int} {k : Kd} (h : kMarks ks (dIs ms) = some k) : ∃ a b : Int, ks = [] ∧ ms = [a, b] ∧ 1 ≤ a ∧ a ≤ 8 ∧ 0 ≤ b ∧ b ≤ 2 ^ a.toNat - 1 ∧ k = .word a.toNat := by
  unfold kMarks at h
  split at h
  · rename_i a b e
    split at h
    · rename_i q
      cases h
      match ms, e with
      | [x, y], e =>
        simp at e
        obtain ⟨rfl, rfl⟩ := e
        have h1 := isW_int.mp q.1
        have h2 := isW_int.mp q.2
        exact ⟨x, y, rfl, rfl, h1.1, h1.2, h2.1, h2.2, rfl⟩
    · cases h
  · cases h
theorem inv_alike {ks : List Kd} {ms : List Int} {k : Kd} (h : kAlike ks (dIs ms) = some k) : ∃ a, ks = [a, a] ∧ ms = [] ∧ k = .truth := by
  unfold kAlike at h
  split at h
  · rename_i a b
    split at h
    · rename_i q
      cases h
      exact ⟨a, by rw [q.1], ms_nil q.2, rfl⟩
    · cases h
  · cases h
theorem inv_choice {ks : List Kd} {ms : List Int} {k : Kd} (h : kChoice ks (dIs ms) = some k) : ∃ a, ks = [.truth, a, a] ∧ ms = [] ∧ k = a := by
  unfold kChoice at h
  split at h
  · rename_i a b
    split at h
    · rename_i q
      cases h
      exact ⟨_, by rw [q.1], ms_nil q.2, rfl⟩
    · cases h
  · cases h
theorem inv_word {ks : List Kd} {ms : List Int} {k : Kd} (h : kWord ks (dIs ms) = some k) : ∃ n, ks = [.word n] ∧ ms = [] ∧ k = .word n := by
  unfold kWord at h
  split at h
  · rename_i n
    split at h
    · rename_i q
      cases h
      exact ⟨_, rfl, ms_nil q, rfl⟩
    · cases h
  · cases h
theorem fit_t {w : Wo} (h : w.fits .truth) : ∃ b, w = .t b := by cases w with | t b => exact ⟨b, rfl⟩ | _ => cases h
theorem fit_n {w : Wo} {n : Nat} (h : w.fits (.word n)) : ∃ x, w = .n x ∧ 0 ≤ x ∧ x < 2 ^ n := by cases w with | n x => exact ⟨x, rfl, h⟩ | _ => cases h
theorem fit_a {w : Wo} {p n : Nat} (h : w.fits (.arr p n)) : ∃ xs, w = .a xs ∧ xs.length = 2 ^ p ∧ ∀ x ∈ xs, 0 ≤ x ∧ x < 2 ^ n := by cases w with | a xs => exact ⟨xs, rfl, h⟩ | _ => cases h
theorem fits0 {ws : List Wo} (h : Fits ws []) : ws = [] := by cases ws with | nil => rfl | cons _ _ => cases h
theorem fits1 {ws : List Wo} {k : Kd} {ks : List Kd} (h : Fits ws (k :: ks)) : ∃ w vs, ws = w :: vs ∧ w.fits k ∧ k.ok ∧ Fits vs ks := by
  cases ws with
  | nil => cases h
  | cons w vs => exact ⟨w, vs, rfl, h.1, h.2.1, h.2.2⟩
theorem getD0 {xs : List Int} {i : Nat} (h : i < xs.length) : xs.getD i 0 = xs[i] := by simp [h]
theorem ix_int {xs : List Int} {i : Int} (h0 : 0 ≤ i) (h : i < xs.length) : atI (dIs xs) i = some (.int (xs.getD i.toNat 0)) := by
  obtain ⟨j, rfl⟩ := Int.eq_ofNat_of_zero_le h0
  have hj : j < xs.length := by omega
  refine atI_nat ?_
  simp [hj]
theorem cut_to {xs : List Int} {i : Int} (h0 : 0 ≤ i) (h : i ≤ xs.length) : cutD (dIs xs) none (some i) = dIs (xs.take i.toNat) := by
  obtain ⟨j, rfl⟩ := Int.eq_ofNat_of_zero_le h0
  have hj : j ≤ xs.length := by omega
  unfold cutD
  rw [HT.sIx_none, HT.sIx_nat]
  simp [Nat.min_eq_left hj]
theorem cut_from {xs : List Int} {i : Int} (h0 : 0 ≤ i) (h : i ≤ xs.length) : cutD (dIs xs) (some i) none = dIs (xs.drop i.toNat) := by
  obtain ⟨j, rfl⟩ := Int.eq_ofNat_of_zero_le h0
  have hj : j ≤ xs.length := by omega
  unfold cutD
  rw [HT.sIx_none, HT.sIx_nat, List.length_map, Nat.min_eq_left hj, List.take_of_length_le (by simp)]
  simp
theorem pow2p {p : Nat} (h1 : 1 ≤ p) (h2 : p ≤ 3) : (2 : Nat) ^ p ≤ 8 := by
  have : p = 1 ∨ p = 2 ∨ p = 3 := by omega
  rcases this with rfl | rfl | rfl <;> decide
theorem powC (p : Nat) : ((2 ^ p : Nat) : Int) = (2 : Int) ^ p := by simp
theorem kind_rule {w : Str} {g : List Kd → List D → Option Kd} (h : ruleOf w = some g) (ks : List Kd) (ms : List D) : kindOf w ks ms = g ks ms := by unfold kindOf; rw [h]; rfl
theorem mean_rule {w : Str} {f : List Int → List Kd → List Wo → Wo} (h : wordMeans.lookup w = some f) (ms : List Int) (ks : List Kd) (ws : List Wo) : meanOf w ms ks ws = f ms ks ws := by unfold meanOf; rw [h]; rfl
theorem sem_moved_worth (c : Cl) : ∀ ds st R xq, spmoved_worth c ds st R xq → wmoved_worth c (EndsOf R xq) (startD ["word", "marks", "kinds", "some", "high", "low"] ds) st := by
  rintro ds st R xq ⟨w, ms, ks, ws, kd, rfl, hw, hk, hf, k⟩
  show wmoved_worth c ⟨_, _, _, _, _⟩ [some (.str w), some (.tup (dIs ms)), some (.lst (ks.map Kd.d)), some (.lst (ws.map Wo.d)), none, none] st
  unfold wmoved_worth
  rcases hw with rfl | rfl | rfl | rfl
  · rw [kind_rule (g := kJoined) rfl] at hk
    obtain ⟨n, m, rfl, rfl, rfl⟩ := inv_joined hk
    obtain ⟨w1, vs, rfl, f1, ⟨n1, n2⟩, hf⟩ := fits1 hf
    obtain ⟨w2, vs, rfl, f2, ⟨m1, m2⟩, hf⟩ := fits1 hf
    obtain rfl := fits0 hf
    obtain ⟨x, rfl, x0, x1⟩ := fit_n f1
    obtain ⟨y, rfl, y0, y1⟩ := fit_n f2
    rw [mean_rule (f := mJoinW) rfl] at k
    walk_at "s"
    refine ixL0 ?_
    walk_at "s"
    refine ixL1 ?_
    walk_at "s"
    refine dIx_t at1 ?_
    refine dII_i ⟨by omega, (by omega), (nat_abs64 n2 x0 x1).1⟩ ?_
    walk_at "s"
    refine ixL1 ?_
    walk_at "s"
    rw [Int.toNat_natCast]
    exact k
  · rw [kind_rule (g := kCut) rfl] at hk
    obtain ⟨n, a, b, rfl, rfl, b0, ba, an, rfl⟩ := inv_cut hk
    obtain ⟨w1, vs, rfl, f1, ⟨n1, n2⟩, hf⟩ := fits1 hf
    obtain rfl := fits0 hf
    obtain ⟨x, rfl, x0, x1⟩ := fit_n f1
    rw [mean_rule (f := mCut) rfl] at k
    walk_at "s"
    refine gsCons_i (d := .int a) (ds := [.int b]) ?_
    walk_at "s"
    refine ixL0 ?_
    walk_at "s"
    refine dII_i b0 ?_
    walk_at "s"
    refine ⟨(a - b + 1).toNat, by congr 2; omega, by omega, ?_⟩
    exact dII_i (pow_pos2 _) k
  · rw [kind_rule (g := kRead) rfl] at hk
    obtain ⟨p, n, rfl, rfl, rfl⟩ := inv_read hk
    obtain ⟨w1, vs, rfl, f1, ⟨p1, p2, n1, n2⟩, hf⟩ := fits1 hf
    obtain ⟨w2, vs, rfl, f2, ⟨m1, m2⟩, hf⟩ := fits1 hf
    obtain rfl := fits0 hf
    obtain ⟨xs, rfl, xl, hx⟩ := fit_a f1
    obtain ⟨y, rfl, y0, y1⟩ := fit_n f2
    rw [mean_rule (f := mRead) rfl] at k
    walk_at "s"
    refine ixL0 ?_
    walk_at "s"
    refine ixL1 ?_
    have := powC p
    exact dIx_t (ix_int y0 (by omega)) k
  · rw [kind_rule (g := kWritten) rfl] at hk
    obtain ⟨p, n, rfl, rfl, rfl⟩ := inv_written hk
    obtain ⟨w1, vs, rfl, f1, ⟨p1, p2, n1, n2⟩, hf⟩ := fits1 hf
    obtain ⟨w2, vs, rfl, f2, ⟨m1, m2⟩, hf⟩ := fits1 hf
    obtain ⟨w3, vs, rfl, f3, ⟨m3, m4⟩, hf⟩ := fits1 hf
    obtain rfl := fits0 hf
    obtain ⟨xs, rfl, xl, hx⟩ := fit_a f1
    obtain ⟨y, rfl, y0, y1⟩ := fit_n f2
    obtain ⟨z, rfl, z0, z1⟩ := fit_n f3
    rw [mean_rule (f := mWrite) rfl] at k
    have h2p := pow2p p1 p2
    have := powC p
    walk_at "s"
    refine ixL0 ?_
    walk_at "s"
    refine ixL1 ?_
    walk_at "s"
    refine onI_i (i := y) ?_
    walk_at "s"
    refine dSlA_t ?_
    rw [cut_to y0 (by omega)]
    walk_at "s"
    refine ixL2 ?_
    walk_at "s"
    refine dAddA_t (by simp only [List.length_map, List.length_take, sizeLine, List.length_cons, List.length_nil]; omega) ?_
    walk_at "s"
    refine ixL0 ?_
    walk_at "s"
    refine ixL1 ?_
    walk_at "s"
    refine dAddA_i (i := y) ?_
    walk_at "s"
    refine dSlA_t ?_
    rw [cut_from (by omega) (by omega)]
    refine dAddA_t (by simp only [List.length_append, List.length_map, List.length_take, List.length_drop, sizeLine, List.length_cons, List.length_nil]; omega) ?_
    have e : (y + 1).toNat = y.toNat + 1 := by omega
    rw [e]
    have k' := k
    simp only [mWrite, Wo.d, dIs, List.map_append] at k'
    exact k'

/-! ### worths, by word -/
theorem par_pairs (c : Cl) : Par (fun (a : Addr) (p : Nat → Int → Int → Wo) => (a, spPair p) ∈ cbPAIRS c) (tbPAIRS c) wordPairs := by
  unfold tbPAIRS wordPairs
  repeat' first
    | exact Par.nil
    | apply Par.cons
  all_goals (unfold cbPAIRS; simp [spband_of, spbor_of, spbxor_of, spadd_of, spsub_of, spmul_of, spdiv_of, sprest_of, spshl_of, spshr_of, spsar_of, spless_of, spsless_of])
theorem look_mem {β : Type} {w : Str} {g : β} : ∀ {l : List (Str × β)}, l.lookup w = some g → (w, g) ∈ l
  | [], e => by simp at e
  | p :: l, e => by
    simp only [List.lookup] at e
    split at e
    · rename_i q
      cases e
      have : w = p.1 := by simpa using q
      subst this; simp
    · exact List.mem_cons_of_mem _ (look_mem e)
theorem look_none {β : Type} {w : Str} : ∀ {l : List (Str × β)}, l.lookup w = none → ∀ p ∈ l, p.1 ≠ w
  | [], _, p, h => by simp at h
  | q :: l, e, p, h => by
    simp only [List.lookup] at e
    split at e
    · cases e
    · rename_i z
      rcases List.mem_cons.mp h with rfl | h
      · intro x; subst x; simp at z
      · exact look_none e p h
theorem pair_facts {w : Str} {p : Nat → Int → Int → Wo} (h : wordPairs.lookup w = some p) : wordMeans.lookup w = some (mPair p) ∧ (ruleOf w = some kWords ∨ ruleOf w = some kLess) := by
  have hm := look_mem h
  simp only [wordPairs, List.mem_cons, List.not_mem_nil, or_false, Prod.mk.injEq] at hm
  rcases hm with h | h | h | h | h | h | h | h | h | h | h | h | h <;> obtain ⟨rfl, rfl⟩ := h <;> exact ⟨rfl, by first | exact .inl rfl | exact .inr rfl⟩
theorem rule_names {w : Str} (h : (ruleOf w).isSome = true) (h1 : w ≠ "number") (h2 : w ≠ "true") (h3 : w ≠ "false") (h4 : w ≠ "not") (h5 : w ≠ "and") (h6 : w ≠ "or") (h7 : w ≠ "same") (h8 : w ≠ "choose") (h9 : w ≠ "flip") (hn : wordPairs.lookup w = none) : w = "join" ∨ w = "cut" ∨ w = "read" ∨ w = "write" := by
  obtain ⟨g, e⟩ := Option.isSome_iff_exists.mp h
  have hm := look_mem e
  have nn := look_none hn
  simp only [wordPairs, List.mem_cons, List.not_mem_nil, or_false, forall_eq_or_imp, forall_eq] at nn
  simp only [wordRules, List.mem_cons, List.not_mem_nil, or_false, Prod.mk.injEq] at hm
  obtain ⟨n1, n2, n3, n4, n5, n6, n7, n8, n9, n10, n11, n12, n13⟩ := nn
  rcases hm with h | h | h | h | h | h | h | h | h | h | h | h | h | h | h | h | h | h | h | h | h | h | h | h | h | h <;> obtain ⟨rfl, rfl⟩ := h <;> first | (exact absurd rfl (by assumption)) | simp
/-! ### == of worths -/
theorem int_pys : ∀ xs : List Int, pyDs (dIs xs) = some (xs.map PyData.int)
  | [] => rfl
  | x :: xs => by simp only [dIs, List.map_cons, pyDs, pyD]; rw [show pyDs (xs.map D.int) = _ from int_pys xs]
theorem int_lay : ∀ xs : List Int, PyData.canLayAll0 (xs.map PyData.int) = true
  | [] => rfl
  | x :: xs => by simp only [List.map_cons, PyData.canLayAll0, PyData.canLay0, int_lay xs, Bool.and_self]
theorem int_dep : ∀ xs : List Int, PyData.depthAll (xs.map PyData.int) = 0
  | [] => rfl
  | x :: xs => by simp only [List.map_cons, PyData.depthAll, PyData.depth, int_dep xs, Nat.max_self]
theorem int_eqv : ∀ xs ys : List Int, PyData.eqvAll (xs.map PyData.int) (ys.map PyData.int) = decide (xs = ys)
  | [], [] => rfl
  | [], _ :: _ => by simp [PyData.eqvAll]
  | _ :: _, [] => by simp [PyData.eqvAll]
  | x :: xs, y :: ys => by
    simp only [List.map_cons, PyData.eqvAll, int_eqv xs ys, PyData.eqv]
    by_cases e : x = y <;> by_cases e2 : xs = ys <;> simp [e, e2]
theorem dEQ_ints {n : Bool} {st : Sto} {R : DQ} {xs ys : List Int} (h : R (.bl (xorB n (decide (xs = ys)))) st) : dEQ n (.tup (dIs xs)) (.tup (dIs ys)) st R := by
  have sh : ∀ xs : List Int, SeqAt.shaped (.tuple (xs.map PyData.int)) = true := by
    intro xs
    unfold SeqAt.shaped
    have h1 : PyData.canLay0 (.tuple (xs.map PyData.int)) = true := by simp only [PyData.canLay0]; exact int_lay xs
    have h2 : PyData.depth (.tuple (xs.map PyData.int)) ≤ 64 := by simp only [PyData.depth, int_dep]; omega
    rw [h1, decide_eq_true h2]; rfl
  refine dEQ_p (p := .tuple (xs.map PyData.int)) (q := .tuple (ys.map PyData.int)) (by simp only [pyD]; rw [int_pys]; rfl) (by simp only [pyD]; rw [int_pys]; rfl) (sh xs) (sh ys) ?_
  have : PyData.eqv (.tuple (xs.map PyData.int)) (.tuple (ys.map PyData.int)) = decide (xs = ys) := by simp only [PyData.eqv]; exact int_eqv xs ys
  rw [this]; exact h
theorem dEQ_wo {n : Bool} {st : Sto} {R : DQ} {a b : Wo} {k : Kd} (ha : a.fits k) (hb : b.fits k) (h : R (.bl (xorB n (decide (a = b)))) st) : dEQ n a.d b.d st R := by
  cases k with
  | truth =>
    obtain ⟨x, rfl⟩ := fit_t ha
    obtain ⟨y, rfl⟩ := fit_t hb
    refine dEQ_b ?_
    have : decide (Wo.t x = Wo.t y) = decide (x = y) := by simp
    rw [← this]; exact h
  | word m =>
    obtain ⟨x, rfl, _⟩ := fit_n ha
    obtain ⟨y, rfl, _⟩ := fit_n hb
    refine dEQ_i ?_
    have : decide (Wo.n x = Wo.n y) = decide (x = y) := by simp
    rw [← this]; exact h
  | arr p m =>
    obtain ⟨x, rfl, _⟩ := fit_a ha
    obtain ⟨y, rfl, _⟩ := fit_a hb
    refine dEQ_ints ?_
    have : decide (Wo.a x = Wo.a y) = decide (x = y) := by simp
    rw [← this]; exact h
theorem sem_worth_by (c : Cl) : ∀ ds st R xq, spworth_by c ds st R xq → wworth_by c (EndsOf R xq) (startD ["word", "marks", "kinds", "some", "deed"] ds) st := by
  rintro ds st R xq ⟨w, ms, ks, ws, kd, rfl, hk, hf, k⟩
  show wworth_by c ⟨_, _, _, _, _⟩ [some (.str w), some (.tup (dIs ms)), some (.lst (ks.map Kd.d)), some (.lst (ws.map Wo.d)), none] st
  unfold wworth_by
  walk_at "s"
  by_cases h1 : w = "number"
  · subst h1
    rw [kind_rule (g := kMarks) rfl] at hk
    obtain ⟨a, b, rfl, rfl, a1, a2, b1, b2, rfl⟩ := inv_marks hk
    rw [mean_rule (f := mNumber) rfl] at k
    walk_at "s"
    exact dIx_t at1 k
  refine ifF (by simp [xorB, h1]) ?_
  walk_at "s"
  by_cases h2 : w = "true"
  · subst h2
    rw [mean_rule (f := mTrue) rfl] at k
    walk_at "s"
    exact k
  refine ifF (by simp [xorB, h2]) ?_
  walk_at "s"
  by_cases h3 : w = "false"
  · subst h3
    rw [mean_rule (f := mFalse) rfl] at k
    walk_at "s"
    exact k
  refine ifF (by simp [xorB, h3]) ?_
  walk_at "s"
  by_cases h4 : w = "not"
  · subst h4
    rw [kind_rule (g := kTruth) rfl] at hk
    obtain ⟨rfl, rfl, rfl⟩ := inv_truth hk
    obtain ⟨w1, vs, rfl, f1, o1, hf⟩ := fits1 hf
    obtain rfl := fits0 hf
    obtain ⟨x, rfl⟩ := fit_t f1
    rw [mean_rule (f := mNotW) rfl] at k
    walk_at "s"
    refine ixL0 ?_
    exact k
  refine ifF (by simp [xorB, h4]) ?_
  walk_at "s"
  by_cases h5 : w = "and"
  · subst h5
    rw [kind_rule (g := kTruths) rfl] at hk
    obtain ⟨rfl, rfl, rfl⟩ := inv_truths hk
    obtain ⟨w1, vs, rfl, f1, o1, hf⟩ := fits1 hf
    obtain ⟨w2, vs, rfl, f2, o2, hf⟩ := fits1 hf
    obtain rfl := fits0 hf
    obtain ⟨x, rfl⟩ := fit_t f1
    obtain ⟨y, rfl⟩ := fit_t f2
    rw [mean_rule (f := mAndW) rfl] at k
    walk_at "s"
    refine ixL0 ?_
    refine onB_i (i := x) ?_
    cases x with
    | true => refine ifT rfl ?_; walk_at "s"; exact ixL1 k
    | false => exact k
  refine ifF (by simp [xorB, h5]) ?_
  walk_at "s"
  by_cases h6 : w = "or"
  · subst h6
    rw [kind_rule (g := kTruths) rfl] at hk
    obtain ⟨rfl, rfl, rfl⟩ := inv_truths hk
    obtain ⟨w1, vs, rfl, f1, o1, hf⟩ := fits1 hf
    obtain ⟨w2, vs, rfl, f2, o2, hf⟩ := fits1 hf
    obtain rfl := fits0 hf
    obtain ⟨x, rfl⟩ := fit_t f1
    obtain ⟨y, rfl⟩ := fit_t f2
    rw [mean_rule (f := mOrW) rfl] at k
    walk_at "s"
    refine ixL0 ?_
    refine onB_i (i := x) ?_
    cases x with
    | true => exact k
    | false => refine ifF (by decide) ?_; walk_at "s"; exact ixL1 k
  refine ifF (by simp [xorB, h6]) ?_
  walk_at "s"
  by_cases h7 : w = "same"
  · subst h7
    rw [kind_rule (g := kAlike) rfl] at hk
    obtain ⟨a, rfl, rfl, rfl⟩ := inv_alike hk
    obtain ⟨w1, vs, rfl, f1, o1, hf⟩ := fits1 hf
    obtain ⟨w2, vs, rfl, f2, o2, hf⟩ := fits1 hf
    obtain rfl := fits0 hf
    rw [mean_rule (f := mSame) rfl] at k
    walk_at "s"
    refine ixL0 ?_
    walk_at "s"
    refine ixL1 ?_
    exact dEQ_wo f1 f2 k
  refine ifF (by simp [xorB, h7]) ?_
  walk_at "s"
  by_cases h8 : w = "choose"
  · subst h8
    rw [kind_rule (g := kChoice) rfl] at hk
    obtain ⟨a, rfl, rfl, rfl⟩ := inv_choice hk
    obtain ⟨w1, vs, rfl, f1, o1, hf⟩ := fits1 hf
    obtain ⟨w2, vs, rfl, f2, o2, hf⟩ := fits1 hf
    obtain ⟨w3, vs, rfl, f3, o3, hf⟩ := fits1 hf
    obtain rfl := fits0 hf
    obtain ⟨x, rfl⟩ := fit_t f1
    rw [mean_rule (f := mChoose) rfl] at k
    walk_at "s"
    refine ixL0 ?_
    refine onB_i (i := x) ?_
    cases x with
    | true => refine ifT rfl ?_; walk_at "s"; exact ixL1 k
    | false => refine ifF (by decide) ?_; walk_at "s"; exact ixL2 k
  refine ifF (by simp [xorB, h8]) ?_
  walk_at "s"
  by_cases h9 : w = "flip"
  · subst h9
    rw [kind_rule (g := kWord) rfl] at hk
    obtain ⟨n, rfl, rfl, rfl⟩ := inv_word hk
    obtain ⟨w1, vs, rfl, f1, ⟨n1, n2⟩, hf⟩ := fits1 hf
    obtain rfl := fits0 hf
    obtain ⟨x, rfl, x0, x1⟩ := fit_n f1
    rw [mean_rule (f := mFlip) rfl] at k
    walk_at "s"
    refine ixL0 ?_
    walk_at "s"
    refine dIx_t at1 ?_
    walk_at "s"
    refine ⟨n, rfl, by omega, ?_⟩
    walk_at "s"
    exact ixL0 k
  refine ifF (by simp [xorB, h9]) ?_
  walk_at "s"
  rcases (par_pairs c).look (w := w) with ⟨a, p, e1, e2, hp⟩ | ⟨e1, e2⟩
  · refine ifT (by rw [e1]; rfl) ?_
    walk_at "s"
    refine dIxKD_i e1 ?_
    walk_at "s"
    refine mCallT_i rfl hp ?_
    obtain ⟨q1, q2⟩ := pair_facts e2
    rw [mean_rule q1] at k
    obtain ⟨n, rfl, rfl⟩ : ∃ n, ks = [.word n, .word n] ∧ ms = [] := by
      rcases q2 with q2 | q2
      · rw [kind_rule q2] at hk
        obtain ⟨n, h1, h2, _⟩ := inv_words hk
        exact ⟨n, h1, h2⟩
      · rw [kind_rule q2] at hk
        obtain ⟨n, h1, h2, _⟩ := inv_less hk
        exact ⟨n, h1, h2⟩
    obtain ⟨w1, vs, rfl, f1, ⟨n1, n2⟩, hf⟩ := fits1 hf
    obtain ⟨w2, vs, rfl, f2, o2, hf⟩ := fits1 hf
    obtain rfl := fits0 hf
    obtain ⟨x, rfl, x0, x1⟩ := fit_n f1
    obtain ⟨y, rfl, y0, y1⟩ := fit_n f2
    walk_at "s"
    refine ixL0 ?_
    walk_at "s"
    refine dIx_t at1 ?_
    walk_at "s"
    refine ixL0 ?_
    walk_at "s"
    refine ixL1 ?_
    walk_at "s"
    exact ⟨n, x, y, rfl, n1, n2, x0, x1, y0, y1, k⟩
  · refine ifF (by rw [e1]; rfl) ?_
    walk_at "s"
    have hs : (ruleOf w).isSome = true := by
      unfold kindOf at hk
      cases e : ruleOf w with
      | some g => rfl
      | none => rw [e] at hk; cases hk
    exact ⟨w, ms, ks, ws, kd, rfl, rule_names hs h1 h2 h3 h4 h5 h6 h7 h8 h9 e2, hk, hf, k⟩
theorem sem_plain_worth (c : Cl) : ∀ ds st R xq, spplain_worth c ds st R xq → wplain_worth c (EndsOf R xq) (startD ["kind"] ds) st := by
  rintro ds st R xq ⟨kd, rfl, ho, k⟩
  show wplain_worth c ⟨_, _, _, _, _⟩ [some kd.d] st
  unfold wplain_worth
  walk_at "s"
  refine dEQ_kd (b := .truth) ?_
  walk_at "s"
  cases kd with
  | truth => refine ifT rfl ?_; walk_at "s"; exact k
  | word n =>
    refine ifF (by simp [xorB]) ?_
    walk_at "s"
    refine dIx_t at0 ?_
    walk_at "s"
    exact k
  | arr p n =>
    obtain ⟨p1, p2, n1, n2⟩ := ho
    refine ifF (by simp [xorB]) ?_
    walk_at "s"
    refine dIx_t at0 ?_
    walk_at "s"
    refine dIx_t at1 ?_
    walk_at "s"
    refine ⟨p, rfl, by omega, ?_⟩
    have h2 := pow2p p1 p2
    have h3 := powC p
    have h4 : 2 ≤ 2 ^ p := by
      have : p = 1 ∨ p = 2 ∨ p = 3 := by omega
      rcases this with rfl | rfl | rfl <;> decide
    refine dMulA_t (by simp) (by omega) (by omega) (by simp) ?_
    have e : (List.replicate ((2 : Int) ^ p).toNat [D.int 0]).flatten = dIs (List.replicate (2 ^ p) 0) := by
      have : ((2 : Int) ^ p).toNat = 2 ^ p := by omega
      rw [this]
      generalize 2 ^ p = m
      induction m with
      | zero => rfl
      | succ m ih => simp only [List.replicate_succ, List.flatten_cons, ih, dIs, List.map_cons]; rfl
    rw [e]
    exact k
theorem sem_is_number (c : Cl) : ∀ ds st R xq, spis_number c ds st R xq → wis_number c (EndsOf R xq) (startD ["thing", "bits"] ds) st := by
  rintro ds st R xq ⟨d, n, rfl, hn, ht, k⟩
  show wis_number c ⟨_, _, _, _, _⟩ [some d, some (.int n)] st
  unfold wis_number
  walk_at "s"
  obtain ⟨t, e⟩ := Option.isSome_iff_exists.mp ht
  cases d with
  | int i =>
    refine ⟨"int", true, rfl, rfl, ?_⟩
    walk_at "s"
    refine ⟨"int", false, rfl, rfl, ?_⟩
    walk_at "s"
    rw [show isW (.int i) 0 (2 ^ n - 1) = (decide (0 ≤ i) && decide (i ≤ 2 ^ n - 1)) from rfl] at k
    by_cases q : 0 ≤ i
    · refine ifT (by simpa using q) ?_
      walk_at "s"
      rw [decide_eq_true q, Bool.true_and] at k
      refine ⟨n, rfl, hn, ?_⟩
      have e : decide (i ≤ 2 ^ n - 1) = decide (i < 2 ^ n) := by rw [decide_eq_decide]; omega
      rw [e] at k
      exact k
    · refine ifF (by simpa using q) ?_
      rw [decide_eq_false q, Bool.false_and] at k
      exact k
  | bl i =>
    refine ⟨"bool", true, rfl, rfl, ?_⟩
    walk_at "s"
    refine ⟨"bool", true, rfl, rfl, ?_⟩
    walk_at "s"
    exact k
  | non => exact ⟨"NoneType", false, rfl, rfl, by walk_at "s"; exact k⟩
  | str _ => exact ⟨"str", false, rfl, rfl, by walk_at "s"; exact k⟩
  | lst _ => exact ⟨"list", false, rfl, rfl, by walk_at "s"; exact k⟩
  | scr _ => exact ⟨"list", false, rfl, rfl, by walk_at "s"; exact k⟩
  | tup _ => exact ⟨"tuple", false, rfl, rfl, by walk_at "s"; exact k⟩
  | hdl j =>
    have e2 := e
    simp only [tyD] at e2
    split at e2
    · cases e2; exact ⟨"list", false, e, rfl, by walk_at "s"; exact k⟩
    · cases e2; exact ⟨"dict", false, e, rfl, by walk_at "s"; exact k⟩
    · cases e2
  | raw _ => simp [tyD] at e
  | exc _ => simp [tyD] at e
theorem sem_is_worth (c : Cl) : ∀ ds st R xq, spis_worth c ds st R xq → wis_worth c (EndsOf R xq) (startD ["thing", "kind", "one"] ds) st := by
  rintro ds st R xq ⟨d, wo, kd, rfl, hd, hf, ho, k⟩
  show wis_worth c ⟨_, _, _, _, _⟩ [some d, some kd.d, none] st
  unfold wis_worth
  walk_at "s"
  refine dEQ_kd (b := .truth) ?_
  walk_at "s"
  cases kd with
  | truth =>
    obtain ⟨b, rfl⟩ := fit_t hf
    have : d = .bl b := by
      rcases hd with rfl | ⟨xs, h, _⟩
      · rfl
      · cases h
    subst this
    refine ifT rfl ?_
    walk_at "s"
    exact ⟨"bool", true, rfl, rfl, k⟩
  | word n =>
    obtain ⟨x, rfl, x0, x1⟩ := fit_n hf
    obtain ⟨n1, n2⟩ := ho
    have : d = .int x := by
      rcases hd with rfl | ⟨xs, h, _⟩
      · rfl
      · cases h
    subst this
    refine ifF (by simp [xorB]) ?_
    walk_at "s"
    refine dIx_t at0 ?_
    walk_at "s"
    refine dIx_t at1 ?_
    walk_at "s"
    refine ⟨.int x, n, rfl, by omega, rfl, ?_⟩
    have : isW (.int x) 0 (2 ^ n - 1) = true := isW_int.mpr ⟨x0, by omega⟩
    rw [this]
    exact k
  | arr p n =>
    obtain ⟨xs, rfl, xl, hx⟩ := fit_a hf
    obtain ⟨p1, p2, n1, n2⟩ := ho
    refine ifF (by simp [xorB]) ?_
    have h2 := pow2p p1 p2
    have h3 := powC p
    have hd' : d = .tup (dIs xs) ∨ d = .lst (dIs xs) := by
      rcases hd with rfl | ⟨ys, h, rfl⟩
      · exact .inl rfl
      · cases h; exact .inr rfl
    have ty : ∃ t, tyD st d = some t ∧ kitBs t ["tuple", "list"] = some true := by
      rcases hd' with rfl | rfl
      · exact ⟨"tuple", rfl, rfl⟩
      · exact ⟨"list", rfl, rfl⟩
    obtain ⟨t, ht1, ht2⟩ := ty
    have len : ∀ {R : DQ}, R (.int xs.length) st → dLen [d] st R := by
      intro R h
      have e : (dIs xs).length = xs.length := by simp
      rcases hd' with rfl | rfl
      · refine dLen_t ?_; rw [e]; exact h
      · refine dLen_l ?_; rw [e]; exact h
    have it : ∀ {k : List D → (Sto → Prop) → Sto → Prop}, k (dIs xs) noInv st → dIt d st k := by
      intro k h
      rcases hd' with rfl | rfl
      · exact dIt_t h
      · exact dIt_l h
    walk_at "s"
    refine dIx_t at0 ?_
    walk_at "s"
    refine ⟨rfl, t, true, ht1, ht2, ?_⟩
    walk_at "s"
    refine len ?_
    walk_at "s"
    refine dIx_t at1 ?_
    walk_at "s"
    refine ⟨p, rfl, by omega, ?_⟩
    walk_at "s"
    refine ifF (by simp [xorB]; omega) ?_
    walk_at "s"
    refine it ?_
    refine lcD_ind (fun ys acc st' => st' = st ∧ ∃ done left : List Int, xs = done ++ left ∧ ys = dIs left ∧ acc = done.map fun _ => D.bl true) ?_ ?_ _ _ _ ⟨rfl, [], xs, rfl, rfl, rfl⟩
    · rintro acc st' ⟨rfl, done, left, e1, e2, rfl⟩
      refine ⟨trivial, ?_⟩
      walk_at "s"
      have e3 : (done.map fun _ => D.bl true) = (done.map fun _ => true).map D.bl := by rw [List.map_map]; rfl
      rw [e3]
      refine dAll_l ?_
      have e4 : (done.map fun _ => true).all id = true := by rw [List.all_map]; simp
      rw [e4]
      exact k
    · rintro y ys acc st' K ⟨rfl, done, left, e1, e2, rfl⟩ hK
      cases left with
      | nil => cases e2
      | cons x left =>
      cases e2
      refine ⟨trivial, ?_⟩
      walk_at "s"
      refine dIx_t at2 ?_
      walk_at "s"
      refine ⟨.int x, n, rfl, by omega, rfl, ?_⟩
      have hx' := hx x (by rw [e1]; simp)
      have : isW (.int x) 0 (2 ^ n - 1) = true := isW_int.mpr ⟨hx'.1, by omega⟩
      rw [this]
      refine ⟨?_, hK _ _ ⟨rfl, done ++ [x], left, by rw [e1]; simp, rfl, by simp⟩⟩
      have := congrArg List.length e1
      simp at this
      simp only [List.length_map, sizeLine]; omega

/-! ### all terms under some -/
theorem sWh_i {c : MT} {b : MS} {nx : DEnv → Sto → Prop} {rt : DQ} {bk ct : DEnv → Sto → Prop} {xq : XQ} {ρ : DEnv} {st : Sto} (Wv : Nat → DEnv → Sto → Prop) (m : Nat) (h0 : Wv m ρ st)
    (h : ∀ m ρ st, Wv m ρ st → c ρ st (fun z st1 => if z = true then b ⟨fun ρ' st' => ∃ m', m' < m ∧ Wv m' ρ' st', rt, nx, fun ρ' st' => ∃ m', m' < m ∧ Wv m' ρ' st', xq⟩ ρ st1 else nx ρ st1) xq) : sWh c b ⟨nx, rt, bk, ct, xq⟩ ρ st := ⟨Wv, ⟨m, h0⟩, h⟩
theorem nodup_subN : ∀ {a b : List Nat}, a.Nodup → (∀ x ∈ a, x ∈ b) → a.length ≤ b.length
  | [], b, _, _ => by simp
  | x :: a, b, hn, hs => by
    simp only [List.nodup_cons] at hn
    have hx := hs x (by simp)
    have := nodup_subN (a := a) (b := b.erase x) hn.2 fun y hy => (List.mem_erase_of_ne (show y ≠ x from fun e => hn.1 (by rw [← e]; exact hy))).mpr (hs y (by simp [hy]))
    rw [List.length_erase_of_mem hx] at this
    have := List.length_pos_of_mem hx
    simp only [List.length_cons]
    omega
theorem shaped_ints (xs : List Int) : SeqAt.shaped (.list (xs.map PyData.int)) = true := by
  unfold SeqAt.shaped
  have h1 : PyData.canLay0 (.list (xs.map PyData.int)) = true := by simp only [PyData.canLay0]; exact int_lay xs
  have h2 : PyData.depth (.list (xs.map PyData.int)) ≤ 64 := by simp only [PyData.depth, int_dep]; omega
  rw [h1, decide_eq_true h2]; rfl
theorem res_ints {n : Nat} {st : Sto} (ns : List Int) : (dIs ns).map (res n st) = dIs ns := by
  rw [dIs, List.map_map]
  apply List.map_congr_left
  intro x _
  cases n with
  | zero => rfl
  | succ n => rfl
theorem dEQ_hl {neg : Bool} {j : Nat} {xs ys : List Int} {st : Sto} {R : DQ} (e : st[j]? = some (.lst (dIs xs))) (h : R (.bl (xorB neg (decide (xs = ys)))) st) : dEQ neg (.hdl j) (.lst (dIs ys)) st R := by
  refine ⟨1, .list (xs.map PyData.int), .list (ys.map PyData.int), ?_, ?_, shaped_ints _, shaped_ints _, ?_⟩
  · simp only [res, dr_hdl e]
    show pyD (.lst ((dIs xs).map (res 0 st))) = _
    rw [res_ints]; simp only [pyD]; rw [int_pys]; rfl
  · show pyD (.lst ((dIs ys).map (res 0 st))) = _
    rw [res_ints]; simp only [pyD]; rw [int_pys]; rfl
  · have : PyData.eqv (.list (xs.map PyData.int)) (.list (ys.map PyData.int)) = decide (xs = ys) := by simp only [PyData.eqv]; exact int_eqv xs ys
    rw [this]; exact h
theorem dNs_Is (ps : List Nat) : dNs ps = dIs (ps.map fun (n : Nat) => (n : Int)) := by simp [dNs, dIs]
def ndParts : Nd → List Nat | .nm _ _ => [] | .ap _ ps _ => ps
theorem nd_parts {n : Nd} {st : Sto} {R : DQ} (h : R (.tup (dNs (ndParts n))) st) : dIx n.d (.int 1) st R := by
  cases n with
  | nm x k => exact dIx_t at1 h
  | ap w ps ms => exact dIx_t at1 h
def fkv (F : List Nat) : List (Key × D) := F.map fun (i : Nat) => (.inl (i : Int), .bl true)
theorem fkv_val (F : List Nat) (i : Nat) : valD (fkv F) (.inl (i : Int)) = if i ∈ F then some (.bl true) else none := by
  induction F with
  | nil => rfl
  | cons a F ih =>
    unfold fkv valD at ih ⊢
    by_cases e : a = i
    · subst e; simp
    · have e' : ¬ i = a := fun z => e z.symm
      have e2 : ¬ ((a : Int) = (i : Int)) := by omega
      simp only [List.map_cons, List.find?_cons, Sum.inl.injEq, e2, decide_false, List.mem_cons, e', false_or]
      exact ih
theorem fkv_keys (F : List Nat) : keysI (fkv F) = some (F.map fun (n : Nat) => (n : Int)) := by
  induction F with
  | nil => rfl
  | cons a F ih => unfold fkv at ih ⊢; simp only [List.map_cons, keysI, ih]; rfl
/-- what the walk over terms keeps -/
structure AU (ts : Ts) (l F L : List Nat) : Prop where
  lt : ∀ i, i ∈ F ∨ i ∈ L → i < ts.length
  nd : F.Nodup
  un : ∀ i, i ∈ F ∨ i ∈ L → Under ts l i
  st : ∀ i ∈ l, i ∈ F ∨ i ∈ L
  cl : ∀ j w ps ms, j ∈ F → ndAt ts j = some (.ap w ps ms) → ∀ p ∈ ps, p ∈ F ∨ p ∈ L
  len : L.length ≤ 1000 + 3 * F.length
theorem kind_parts {w : Str} {ks : List Kd} {ms : List Int} {k : Kd} (h : kindOf w ks (dIs ms) = some k) : ks.length ≤ 3 := by
  unfold kindOf at h
  rw [Option.bind_eq_some_iff] at h
  obtain ⟨g, e1, e2⟩ := h
  have hm := look_mem e1
  simp only [wordRules, List.mem_cons, List.not_mem_nil, or_false, Prod.mk.injEq] at hm
  have c1 : g = kNothing ∨ g = kMarks ∨ g = kTruth ∨ g = kTruths ∨ g = kAlike ∨ g = kLess ∨ g = kChoice ∨ g = kWord ∨ g = kWords ∨ g = kJoined ∨ g = kCut ∨ g = kRead ∨ g = kWritten := by
    rcases hm with h | h | h | h | h | h | h | h | h | h | h | h | h | h | h | h | h | h | h | h | h | h | h | h | h | h <;> obtain ⟨_, rfl⟩ := h <;> simp
  rcases c1 with h | h | h | h | h | h | h | h | h | h | h | h | h <;> rw [h] at e2
  · obtain ⟨rfl, _⟩ := inv_nothing e2; simp
  · obtain ⟨_, _, rfl, _⟩ := inv_marks e2; simp
  · obtain ⟨rfl, _⟩ := inv_truth e2; simp
  · obtain ⟨rfl, _⟩ := inv_truths e2; simp
  · obtain ⟨_, rfl, _⟩ := inv_alike e2; simp
  · obtain ⟨_, rfl, _⟩ := inv_less e2; simp
  · obtain ⟨_, rfl, _⟩ := inv_choice e2; simp
  · obtain ⟨_, rfl, _⟩ := inv_word e2; simp
  · obtain ⟨_, rfl, _⟩ := inv_words e2; simp
  · obtain ⟨_, _, rfl, _⟩ := inv_joined e2; simp
  · obtain ⟨_, _, _, rfl, _⟩ := inv_cut e2; simp
  · obtain ⟨_, _, rfl, _⟩ := inv_read e2; simp
  · obtain ⟨_, _, rfl, _⟩ := inv_written e2; simp
theorem BankOk.parts {ts : Ts} (h : BankOk ts) {i : Nat} {n : Nd} (e : ndAt ts i = some n) : (ndParts n).length ≤ 3 ∧ ∀ p ∈ ndParts n, p < i := by
  have hi := ndAt_lt e
  have e2 : ts[i]? = some ts[i] := by simp [hi]
  have e3 : ts[i].1 = n := by simpa [ndAt, hi] using e
  have q := h.ok i _ e2
  revert q e3
  rcases ts[i] with ⟨m, k⟩
  rintro rfl q
  cases m with
  | nm x k' => exact ⟨by simp [ndParts], by simp [ndParts]⟩
  | ap w ps ms => exact ⟨by have := kind_parts q.2.1; simpa [ndParts] using this, q.1⟩
theorem AU.step {ts : Ts} {l F L : List Nat} {t : Nat} {n : Nd} (h : AU ts l F (L ++ [t])) (ho : BankOk ts) (e : ndAt ts t = some n) (hf : t ∉ F) : AU ts l (F ++ [t]) (L ++ ndParts n) := by
  obtain ⟨h1, h2⟩ := ho.parts e
  have ht := h.lt t (.inr (by simp))
  have hu := h.un t (.inr (by simp))
  have hp : ∀ p ∈ ndParts n, Under ts l p := by
    intro p hp P h3 h4
    cases n with
    | nm x k => simp [ndParts] at hp
    | ap w ps ms => exact h4 t w ps ms (hu P h3 h4) e p hp
  refine ⟨?_, ?_, ?_, ?_, ?_, ?_⟩
  · intro i hi
    simp only [List.mem_append, List.mem_singleton] at hi
    rcases hi with (hi | rfl) | hi | hi
    · exact h.lt i (.inl hi)
    · exact ht
    · exact h.lt i (.inr (by simp [hi]))
    · have := h2 i hi; omega
  · rw [List.nodup_append]
    exact ⟨h.nd, by simp, fun a ha b hb => by simp at hb; subst hb; intro z; subst z; exact hf ha⟩
  · intro i hi
    simp only [List.mem_append, List.mem_singleton] at hi
    rcases hi with (hi | rfl) | hi | hi
    · exact h.un i (.inl hi)
    · exact hu
    · exact h.un i (.inr (by simp [hi]))
    · exact hp i hi
  · intro i hi
    have := h.st i hi
    simp only [List.mem_append, List.mem_singleton] at this ⊢
    rcases this with q | q | q
    · exact .inl (.inl q)
    · exact .inr (.inl q)
    · exact .inl (.inr q)
  · intro j w ps ms hj ej p hp'
    simp only [List.mem_append, List.mem_singleton] at hj ⊢
    rcases hj with hj | rfl
    · have := h.cl j w ps ms hj ej p hp'
      simp only [List.mem_append, List.mem_singleton] at this
      rcases this with q | q | q
      · exact .inl (.inl q)
      · exact .inr (.inl q)
      · exact .inl (.inr q)
    · rw [e] at ej
      cases ej
      exact .inr (.inr hp')
  · have := h.len
    simp only [List.length_append, List.length_cons, List.length_nil] at this ⊢
    omega
theorem AU.drop {ts : Ts} {l F L : List Nat} {t : Nat} (h : AU ts l F (L ++ [t])) (hf : t ∈ F) : AU ts l F L := by
  have up : ∀ {i}, (i ∈ F ∨ i ∈ L ++ [t]) → (i ∈ F ∨ i ∈ L) := by
    intro i q
    simp only [List.mem_append, List.mem_singleton] at q
    rcases q with q | q | rfl
    · exact .inl q
    · exact .inr q
    · exact .inl hf
  have dn : ∀ {i}, (i ∈ F ∨ i ∈ L) → (i ∈ F ∨ i ∈ L ++ [t]) := by
    intro i q
    rcases q with q | q
    · exact .inl q
    · exact .inr (by simp [q])
  refine ⟨fun i q => h.lt i (dn q), h.nd, fun i q => h.un i (dn q), fun i q => up (h.st i q), fun j w ps ms a b p c => up (h.cl j w ps ms a b p c), ?_⟩
  have := h.len
  simp only [List.length_append, List.length_cons, List.length_nil] at this
  omega
theorem AU.size {ts : Ts} {l F L : List Nat} (h : AU ts l F L) : F.length ≤ ts.length := by
  have := nodup_subN (b := List.range ts.length) h.nd fun x hx => by simpa using h.lt x (.inl hx)
  simpa using this
theorem sorted_nats {F : List Nat} {ys : List Int} (hp : ys.Perm (F.map fun (n : Nat) => (n : Int))) (hs : ys.Pairwise (· ≤ ·)) (hn : F.Nodup) : ∃ zs : List Nat, ys.map D.int = dNs zs ∧ zs.Pairwise (· < ·) ∧ ∀ i, i ∈ zs ↔ i ∈ F := by
  have pos : ∀ y ∈ ys, ∃ n : Nat, y = (n : Int) := by
    intro y hy
    have := hp.mem_iff.mp hy
    obtain ⟨n, _, e⟩ := List.mem_map.mp this
    exact ⟨n, e.symm⟩
  have hnd : ys.Nodup := by
    rw [hp.nodup_iff]
    rw [List.nodup_iff_pairwise_ne, List.pairwise_map]
    rw [List.nodup_iff_pairwise_ne] at hn
    exact hn.imp fun {a b} q z => q (by omega)
  have key : ∀ ys : List Int, (∀ y ∈ ys, ∃ n : Nat, y = (n : Int)) → ys = (ys.map Int.toNat).map fun (n : Nat) => (n : Int) := by
    intro ys
    induction ys with
    | nil => intro _; rfl
    | cons y ys ih =>
      intro h
      obtain ⟨n, rfl⟩ := h y (by simp)
      rw [List.map_cons, List.map_cons, ← ih fun z hz => h z (by simp [hz])]
      simp
  have k := key ys pos
  refine ⟨ys.map Int.toNat, ?_, ?_, ?_⟩
  · conv => lhs; rw [k]
    simp [dNs]
  · rw [List.pairwise_map]
    rw [List.nodup_iff_pairwise_ne] at hnd
    have both := hs.and hnd
    refine List.Pairwise.imp_of_mem ?_ both
    intro a b ha hb ⟨q1, q2⟩
    obtain ⟨n, rfl⟩ := pos a ha
    obtain ⟨m, rfl⟩ := pos b hb
    omega
  · intro i
    constructor
    · intro hi
      obtain ⟨y, hy, rfl⟩ := List.mem_map.mp hi
      have := hp.mem_iff.mp hy
      obtain ⟨n, hn', rfl⟩ := List.mem_map.mp this
      simpa using hn'
    · intro hi
      have : (i : Int) ∈ ys := hp.mem_iff.mpr (List.mem_map.mpr ⟨i, hi, rfl⟩)
      exact List.mem_map.mpr ⟨_, this, by simp⟩
theorem sem_all_under (c : Cl) : ∀ ds st R xq, spall_under c ds st R xq → wall_under c (EndsOf R xq) (startD ["bank", "terms", "found", "left", "term"] ds) st := by
  rintro ds st R xq ⟨B, ts, d, l, rfl, hb, ho, sq, ll, hl, hts, k⟩
  show wall_under c ⟨_, _, _, _, _⟩ [some (.hdl B.b), some d, none, none, none] st
  unfold wall_under
  walk_at "s"
  refine SeqA.list (sq.fx (F' := []) Fx.refl.app (by simp)) ?_
  walk_at "s"
  have l1 : (st ++ [Cell.dK []]).length = st.length + 1 := by simp
  rw [l1]
  refine sWh_i (fun m ρ st' => ∃ (F L : List Nat) (z : Option D), ρ = [some (.hdl B.b), some d, some (.hdl st.length), some (.hdl (st.length + 1)), z] ∧ st'[st.length]? = some (.dK (fkv F)) ∧ st'[st.length + 1]? = some (.lst (dNs L)) ∧ Fx [] st st' ∧ AU ts l F L ∧ m = 4 * (ts.length - F.length) + L.length) _ ⟨[], l, none, rfl, ?_, ?_, Fx.refl.app.app, ⟨?_, List.nodup_nil, ?_, ?_, ?_, ?_⟩, rfl⟩ ?_
  · exact appL appN
  · rw [← l1]; exact appN
  · intro i hi; exact hi.elim (fun q => by simp at q) fun q => hl i q
  · intro i hi P h1 _; exact h1 i (hi.elim (fun q => by simp at q) id)
  · intro i hi; exact .inr hi
  · intro j w ps ms hj; simp at hj
  · simp; omega
  · rintro m ρ st' ⟨F, L, z, rfl, hF, hL, fx, au, rfl⟩
    have hL' := hL
    rw [dNs_Is] at hL'
    walk_at "s"
    refine dEQ_hl (ys := []) hL' ?_
    walk_at "s"
    rcases List.eq_nil_or_concat L with rfl | ⟨L0, t, e⟩
    · refine ifF rfl ?_
      walk_at "s"
      have hsz := hts F au.nd fun i hi => au.un i (.inl hi)
      refine dSortK_h hF (fkv_keys F) (by simp; omega) ?_
      intro ys hp hs
      obtain ⟨zs, e1, e2, e3⟩ := sorted_nats hp hs au.nd
      rw [e1]
      refine k zs st' ?_ e2 fx
      intro i
      rw [e3]
      constructor
      · intro hi; exact au.un i (.inl hi)
      · intro hu
        refine hu (· ∈ F) ?_ ?_
        · intro j hj; exact (au.st j hj).elim id fun q => by simp at q
        · intro j w ps ms hj ej p hp'; exact (au.cl j w ps ms hj ej p hp').elim id fun q => by simp at q
    · rw [List.concat_eq_append] at e
      subst e
      refine ifT (by simp [xorB]) ?_
      walk_at "s"
      refine ⟨isLD_h hL, ?_⟩
      have hlast : (dNs (L0 ++ [t]))[(dNs (L0 ++ [t])).length - 1]? = some (.int (t : Int)) := by simp [dNs]
      have hdrop : (dNs (L0 ++ [t])).dropLast = dNs L0 := by simp [dNs]
      simp only [dPop0, onH_hdl hL]
      refine ⟨_, hlast, ?_⟩
      rw [hdrop]
      generalize hs1 : st'.set (st.length + 1) (.lst (dNs L0)) = st1
      have F1 : st1[st.length]? = some (.dK (fkv F)) := by rw [← hs1, List.getElem?_set_ne (by omega)]; exact hF
      have L1 : st1[st.length + 1]? = some (.lst (dNs L0)) := by rw [← hs1]; exact setSame hL
      have x1 : Fx [] st st1 := by rw [← hs1]; exact fx.set (.inr (by omega))
      walk_at "s"
      refine dIN_k F1 (key := .inl (t : Int)) rfl ?_
      rw [fkv_val]
      have htl := au.lt t (.inr (by simp))
      have hsz := au.size
      have h63 := hts F au.nd fun i hi => au.un i (.inl hi)
      by_cases ht : t ∈ F
      · rw [if_pos ht]
        walk_at "s"
        exact ⟨_, by simp only [List.length_append, List.length_cons, List.length_nil]; omega, F, L0, _, rfl, F1, L1, x1, au.drop ht, rfl⟩
      · rw [if_neg ht]
        walk_at "s"
        have hfl : (fkv F).length = F.length := by simp [fkv]
        refine dSet_k F1 (by rw [hfl]; simp only [sizeLine]; omega) (key := .inl (t : Int)) rfl ?_
        rw [putD_newB (by rw [fkv_val, if_neg ht])]
        have hput : fkv F ++ [(.inl (t : Int), D.bl true)] = fkv (F ++ [t]) := by simp [fkv]
        rw [hput]
        generalize hs2 : st1.set st.length (.dK (fkv (F ++ [t]))) = st2
        have F2 : st2[st.length]? = some (.dK (fkv (F ++ [t]))) := by rw [← hs2]; exact setSame F1
        have L2 : st2[st.length + 1]? = some (.lst (dNs L0)) := by rw [← hs2, List.getElem?_set_ne (by omega)]; exact L1
        have x2 : Fx [] st st2 := by rw [← hs2]; exact x1.set (.inr (by omega))
        have hb2 : BankAt c B ts st2 := hb.fx x2 (by simp) (by simp)
        walk_at "s"
        refine ⟨isLD_h L2, ?_⟩
        walk_at "s"
        refine ⟨hb2.is, ?_⟩
        walk_at "s"
        have et : ts[t]? = some ts[t] := by simp [htl]
        refine ⟨B, ts, t, ts[t], rfl, hb2, et, ?_⟩
        walk_at "s"
        refine nd_parts ?_
        have en : ndAt ts t = some ts[t].1 := by simp [ndAt, htl]
        obtain ⟨q1, q2⟩ := ho.parts en
        have hlen := au.len
        simp only [List.length_append, List.length_cons, List.length_nil] at hlen
        walk_at "s"
        refine dExtA_t L2 (by simp only [List.length_map, sizeLine]; omega) ?_
        have hjoin : dNs L0 ++ dNs (ndParts ts[t].1) = dNs (L0 ++ ndParts ts[t].1) := by simp [dNs]
        rw [hjoin]
        have hF' : (F ++ [t]).length ≤ ts.length := (au.step ho en ht).size
        simp only [List.length_append, List.length_cons, List.length_nil] at hF'
        exact ⟨_, by simp only [List.length_append, List.length_cons, List.length_nil]; omega, F ++ [t], L0 ++ ndParts ts[t].1, _, rfl, by rw [List.getElem?_set_ne (by omega)]; exact F2, setSame L2, x2.set (.inr (by omega)), au.step ho en ht, rfl⟩

/-! ### worths fit -/
theorem band_nat (a b : Nat) : Builtin.bitAnd (a : Int) (b : Int) = ((a &&& b : Nat) : Int) := by
  unfold Builtin.bitAnd
  rw [decide_eq_true (Int.natCast_nonneg a), decide_eq_true (Int.natCast_nonneg b)]
  simp
theorem bor_nat (a b : Nat) : Builtin.bitOr (a : Int) (b : Int) = ((a ||| b : Nat) : Int) := by
  unfold Builtin.bitOr Builtin.bitAnd Builtin.bitNot
  have h1 : ¬ (0 : Int) ≤ -(a : Int) - 1 := by omega
  have h2 : ¬ (0 : Int) ≤ -(b : Int) - 1 := by omega
  rw [decide_eq_false h1, decide_eq_false h2]
  have e1 : (-(-(a : Int) - 1) - 1).toNat = a := by omega
  have e2 : (-(-(b : Int) - 1) - 1).toNat = b := by omega
  simp only [e1, e2]
  omega
theorem plain_fits (k : Kd) : (plainW k).fits k := by
  cases k with
  | truth => trivial
  | word n => exact ⟨Int.le_refl _, pow_pos2 n⟩
  | arr p n =>
    refine ⟨by simp, ?_⟩
    intro x hx
    have := List.eq_of_mem_replicate hx
    subst this
    exact ⟨Int.le_refl _, pow_pos2 n⟩
theorem toNat_lt {x : Int} {n : Nat} (h0 : 0 ≤ x) (h : x < 2 ^ n) : x.toNat < 2 ^ n := by
  have := powC n
  omega
theorem pair_n {x y : Int} {n : Nat} (f : Int → Int → Int) (g : Nat → Nat → Nat) (hfg : ∀ a b : Nat, f (a : Int) (b : Int) = ((g a b : Nat) : Int)) (hg : ∀ a b : Nat, a < 2 ^ n → b < 2 ^ n → g a b < 2 ^ n) (x0 : 0 ≤ x) (x1 : x < 2 ^ n) (y0 : 0 ≤ y) (y1 : y < 2 ^ n) : 0 ≤ f x y ∧ f x y < 2 ^ n := by
  obtain ⟨a, rfl⟩ := Int.eq_ofNat_of_zero_le x0
  obtain ⟨b, rfl⟩ := Int.eq_ofNat_of_zero_le y0
  rw [hfg]
  have h1 : a < 2 ^ n := by have := toNat_lt x0 x1; simpa using this
  have h2 : b < 2 ^ n := by have := toNat_lt y0 y1; simpa using this
  have := hg a b h1 h2
  have e := powC n
  omega
theorem band_fits {x y : Int} {n : Nat} (x0 : 0 ≤ x) (x1 : x < 2 ^ n) (y0 : 0 ≤ y) (y1 : y < 2 ^ n) : 0 ≤ Builtin.bitAnd x y ∧ Builtin.bitAnd x y < 2 ^ n :=
  pair_n Builtin.bitAnd (· &&& ·) band_nat (fun a b h1 _ => Nat.lt_of_le_of_lt Nat.and_le_left h1) x0 x1 y0 y1
theorem bor_fits {x y : Int} {n : Nat} (x0 : 0 ≤ x) (x1 : x < 2 ^ n) (y0 : 0 ≤ y) (y1 : y < 2 ^ n) : 0 ≤ Builtin.bitOr x y ∧ Builtin.bitOr x y < 2 ^ n :=
  pair_n Builtin.bitOr (· ||| ·) bor_nat (fun a b h1 h2 => Nat.or_lt_two_pow h1 h2) x0 x1 y0 y1
theorem bxor_fits {x y : Int} {n : Nat} (x0 : 0 ≤ x) (x1 : x < 2 ^ n) (y0 : 0 ≤ y) (y1 : y < 2 ^ n) : 0 ≤ Builtin.bitXor x y ∧ Builtin.bitXor x y < 2 ^ n := by
  obtain ⟨h1, h2⟩ := bor_fits x0 x1 y0 y1
  obtain ⟨h3, h4⟩ := band_fits x0 x1 y0 y1
  have : Builtin.bitAnd x y ≤ Builtin.bitOr x y := by
    obtain ⟨a, rfl⟩ := Int.eq_ofNat_of_zero_le x0
    obtain ⟨b, rfl⟩ := Int.eq_ofNat_of_zero_le y0
    rw [band_nat, bor_nat]
    have h1 : a &&& b ≤ a := Nat.and_le_left
    have h2 : a ≤ a ||| b := Nat.left_le_or
    omega
  unfold Builtin.bitXor
  omega
theorem div_le {x y : Int} (x0 : 0 ≤ x) (y0 : 0 < y) : 0 ≤ x / y ∧ x / y ≤ x := ⟨Int.ediv_nonneg x0 (Int.le_of_lt y0), Int.ediv_le_self y x0⟩
theorem pair_fits {w : Str} {p : Nat → Int → Int → Wo} {ks : List Kd} {ms : List Int} {k : Kd} (h : wordPairs.lookup w = some p) (hk : kindOf w ks (dIs ms) = some k) : ∃ n, ks = [.word n, .word n] ∧ ∀ x y : Int, 0 ≤ x → x < 2 ^ n → 0 ≤ y → y < 2 ^ n → (p n x y).fits k := by
  have hm := look_mem h
  simp only [wordPairs, List.mem_cons, List.not_mem_nil, or_false, Prod.mk.injEq] at hm
  have word : kindOf w ks (dIs ms) = kWords ks (dIs ms) → ∃ n, ks = [.word n, .word n] ∧ k = .word n := by
    intro e; rw [e] at hk
    obtain ⟨n, h1, _, h2⟩ := inv_words hk
    exact ⟨n, h1, h2⟩
  have less : kindOf w ks (dIs ms) = kLess ks (dIs ms) → ∃ n, ks = [.word n, .word n] ∧ k = .truth := by
    intro e; rw [e] at hk
    obtain ⟨n, h1, _, h2⟩ := inv_less hk
    exact ⟨n, h1, h2⟩
  rcases hm with h | h | h | h | h | h | h | h | h | h | h | h | h <;> obtain ⟨rfl, rfl⟩ := h
  · obtain ⟨n, h1, rfl⟩ := word (kind_rule rfl _ _); exact ⟨n, h1, fun x y a b c d => band_fits a b c d⟩
  · obtain ⟨n, h1, rfl⟩ := word (kind_rule rfl _ _); exact ⟨n, h1, fun x y a b c d => bor_fits a b c d⟩
  · obtain ⟨n, h1, rfl⟩ := word (kind_rule rfl _ _); exact ⟨n, h1, fun x y a b c d => bxor_fits a b c d⟩
  · obtain ⟨n, h1, rfl⟩ := word (kind_rule rfl _ _); exact ⟨n, h1, fun x y a b c d => ⟨Int.emod_nonneg _ (Int.ne_of_gt (pow_pos2 n)), Int.emod_lt_of_pos _ (pow_pos2 n)⟩⟩
  · obtain ⟨n, h1, rfl⟩ := word (kind_rule rfl _ _); exact ⟨n, h1, fun x y a b c d => ⟨Int.emod_nonneg _ (Int.ne_of_gt (pow_pos2 n)), Int.emod_lt_of_pos _ (pow_pos2 n)⟩⟩
  · obtain ⟨n, h1, rfl⟩ := word (kind_rule rfl _ _); exact ⟨n, h1, fun x y a b c d => ⟨Int.emod_nonneg _ (Int.ne_of_gt (pow_pos2 n)), Int.emod_lt_of_pos _ (pow_pos2 n)⟩⟩
  · obtain ⟨n, h1, rfl⟩ := word (kind_rule rfl _ _)
    refine ⟨n, h1, fun x y a b c d => ?_⟩
    unfold pDiv
    have hp := pow_pos2 n
    by_cases q : y = 0
    · rw [if_pos q]; show _ ∧ _; omega
    · rw [if_neg q]
      have := div_le a (show 0 < y by omega)
      show _ ∧ _
      omega
  · obtain ⟨n, h1, rfl⟩ := word (kind_rule rfl _ _)
    refine ⟨n, h1, fun x y a b c d => ?_⟩
    unfold pRest
    by_cases q : y = 0
    · rw [if_pos q]; exact ⟨a, b⟩
    · rw [if_neg q]
      have h2 := Int.emod_nonneg x q
      have h3 := Int.emod_lt_of_pos x (show 0 < y by omega)
      show _ ∧ _
      omega
  · obtain ⟨n, h1, rfl⟩ := word (kind_rule rfl _ _); exact ⟨n, h1, fun x y a b c d => ⟨Int.emod_nonneg _ (Int.ne_of_gt (pow_pos2 n)), Int.emod_lt_of_pos _ (pow_pos2 n)⟩⟩
  · obtain ⟨n, h1, rfl⟩ := word (kind_rule rfl _ _)
    refine ⟨n, h1, fun x y a b c d => ?_⟩
    have := div_le a (pow_pos2 y.toNat)
    show 0 ≤ x / 2 ^ y.toNat ∧ x / 2 ^ y.toNat < 2 ^ n
    omega
  · obtain ⟨n, h1, rfl⟩ := word (kind_rule rfl _ _); exact ⟨n, h1, fun x y a b c d => ⟨Int.emod_nonneg _ (Int.ne_of_gt (pow_pos2 n)), Int.emod_lt_of_pos _ (pow_pos2 n)⟩⟩
  · obtain ⟨n, h1, rfl⟩ := less (kind_rule rfl _ _); exact ⟨n, h1, fun x y a b c d => trivial⟩
  · obtain ⟨n, h1, rfl⟩ := less (kind_rule rfl _ _); exact ⟨n, h1, fun x y a b c d => trivial⟩
theorem mean_fits {w : Str} {ms : List Int} {ks : List Kd} {ws : List Wo} {kd : Kd} (hk : kindOf w ks (dIs ms) = some kd) (hf : Fits ws ks) : (meanOf w ms ks ws).fits kd := by
  by_cases h1 : w = "number"
  · subst h1
    rw [kind_rule (g := kMarks) rfl] at hk
    obtain ⟨a, b, rfl, rfl, a1, a2, b1, b2, rfl⟩ := inv_marks hk
    rw [mean_rule (f := mNumber) rfl]
    show 0 ≤ b ∧ b < 2 ^ a.toNat
    omega
  by_cases h2 : w = "true"
  · subst h2
    rw [kind_rule (g := kNothing) rfl] at hk
    obtain ⟨_, _, rfl⟩ := inv_nothing hk
    rw [mean_rule (f := mTrue) rfl]; trivial
  by_cases h3 : w = "false"
  · subst h3
    rw [kind_rule (g := kNothing) rfl] at hk
    obtain ⟨_, _, rfl⟩ := inv_nothing hk
    rw [mean_rule (f := mFalse) rfl]; trivial
  by_cases h4 : w = "not"
  · subst h4
    rw [kind_rule (g := kTruth) rfl] at hk
    obtain ⟨rfl, rfl, rfl⟩ := inv_truth hk
    obtain ⟨w1, vs, rfl, f1, o1, hf⟩ := fits1 hf
    obtain rfl := fits0 hf
    obtain ⟨x, rfl⟩ := fit_t f1
    rw [mean_rule (f := mNotW) rfl]; trivial
  by_cases h5 : w = "and"
  · subst h5
    rw [kind_rule (g := kTruths) rfl] at hk
    obtain ⟨rfl, rfl, rfl⟩ := inv_truths hk
    obtain ⟨w1, vs, rfl, f1, o1, hf⟩ := fits1 hf
    obtain ⟨w2, vs, rfl, f2, o2, hf⟩ := fits1 hf
    obtain rfl := fits0 hf
    obtain ⟨x, rfl⟩ := fit_t f1
    obtain ⟨y, rfl⟩ := fit_t f2
    rw [mean_rule (f := mAndW) rfl]; trivial
  by_cases h6 : w = "or"
  · subst h6
    rw [kind_rule (g := kTruths) rfl] at hk
    obtain ⟨rfl, rfl, rfl⟩ := inv_truths hk
    obtain ⟨w1, vs, rfl, f1, o1, hf⟩ := fits1 hf
    obtain ⟨w2, vs, rfl, f2, o2, hf⟩ := fits1 hf
    obtain rfl := fits0 hf
    obtain ⟨x, rfl⟩ := fit_t f1
    obtain ⟨y, rfl⟩ := fit_t f2
    rw [mean_rule (f := mOrW) rfl]; trivial
  by_cases h7 : w = "same"
  · subst h7
    rw [kind_rule (g := kAlike) rfl] at hk
    obtain ⟨a, rfl, rfl, rfl⟩ := inv_alike hk
    obtain ⟨w1, vs, rfl, f1, o1, hf⟩ := fits1 hf
    obtain ⟨w2, vs, rfl, f2, o2, hf⟩ := fits1 hf
    obtain rfl := fits0 hf
    rw [mean_rule (f := mSame) rfl]; trivial
  by_cases h8 : w = "choose"
  · subst h8
    rw [kind_rule (g := kChoice) rfl] at hk
    obtain ⟨a, rfl, rfl, rfl⟩ := inv_choice hk
    obtain ⟨w1, vs, rfl, f1, o1, hf⟩ := fits1 hf
    obtain ⟨w2, vs, rfl, f2, o2, hf⟩ := fits1 hf
    obtain ⟨w3, vs, rfl, f3, o3, hf⟩ := fits1 hf
    obtain rfl := fits0 hf
    obtain ⟨x, rfl⟩ := fit_t f1
    rw [mean_rule (f := mChoose) rfl]
    cases x with
    | true => exact f2
    | false => exact f3
  by_cases h9 : w = "flip"
  · subst h9
    rw [kind_rule (g := kWord) rfl] at hk
    obtain ⟨n, rfl, rfl, rfl⟩ := inv_word hk
    obtain ⟨w1, vs, rfl, f1, ⟨n1, n2⟩, hf⟩ := fits1 hf
    obtain rfl := fits0 hf
    obtain ⟨x, rfl, x0, x1⟩ := fit_n f1
    rw [mean_rule (f := mFlip) rfl]
    show 0 ≤ 2 ^ n - 1 - x ∧ 2 ^ n - 1 - x < 2 ^ n
    omega
  cases e2 : wordPairs.lookup w with
  | some p =>
    obtain ⟨q1, q2⟩ := pair_facts e2
    obtain ⟨n, rfl, hp⟩ := pair_fits e2 hk
    obtain ⟨w1, vs, rfl, f1, ⟨n1, n2⟩, hf⟩ := fits1 hf
    obtain ⟨w2, vs, rfl, f2, o2, hf⟩ := fits1 hf
    obtain rfl := fits0 hf
    obtain ⟨x, rfl, x0, x1⟩ := fit_n f1
    obtain ⟨y, rfl, y0, y1⟩ := fit_n f2
    rw [mean_rule q1]
    exact hp x y x0 x1 y0 y1
  | none =>
    have hs : (ruleOf w).isSome = true := by
      unfold kindOf at hk
      cases e : ruleOf w with
      | some g => rfl
      | none => rw [e] at hk; cases hk
    rcases rule_names hs h1 h2 h3 h4 h5 h6 h7 h8 h9 e2 with rfl | rfl | rfl | rfl
    · rw [kind_rule (g := kJoined) rfl] at hk
      obtain ⟨n, m, rfl, rfl, rfl⟩ := inv_joined hk
      obtain ⟨w1, vs, rfl, f1, ⟨n1, n2⟩, hf⟩ := fits1 hf
      obtain ⟨w2, vs, rfl, f2, ⟨m1, m2⟩, hf⟩ := fits1 hf
      obtain rfl := fits0 hf
      obtain ⟨x, rfl, x0, x1⟩ := fit_n f1
      obtain ⟨y, rfl, y0, y1⟩ := fit_n f2
      rw [mean_rule (f := mJoinW) rfl]
      show 0 ≤ x * 2 ^ m + y ∧ x * 2 ^ m + y < 2 ^ (n + m)
      have hp := pow_pos2 m
      have h1 : 0 ≤ x * 2 ^ m := Int.mul_nonneg x0 (Int.le_of_lt hp)
      have h2 : (x + 1) * 2 ^ m ≤ 2 ^ n * 2 ^ m := Int.mul_le_mul_of_nonneg_right (by omega) (Int.le_of_lt hp)
      rw [Int.pow_add]
      rw [Int.add_mul, Int.one_mul] at h2
      omega
    · rw [kind_rule (g := kCut) rfl] at hk
      obtain ⟨n, a, b, rfl, rfl, b0, ba, an, rfl⟩ := inv_cut hk
      obtain ⟨w1, vs, rfl, f1, ⟨n1, n2⟩, hf⟩ := fits1 hf
      obtain rfl := fits0 hf
      obtain ⟨x, rfl, x0, x1⟩ := fit_n f1
      rw [mean_rule (f := mCut) rfl]
      exact ⟨Int.emod_nonneg _ (Int.ne_of_gt (pow_pos2 _)), Int.emod_lt_of_pos _ (pow_pos2 _)⟩
    · rw [kind_rule (g := kRead) rfl] at hk
      obtain ⟨p, n, rfl, rfl, rfl⟩ := inv_read hk
      obtain ⟨w1, vs, rfl, f1, ⟨p1, p2, n1, n2⟩, hf⟩ := fits1 hf
      obtain ⟨w2, vs, rfl, f2, ⟨m1, m2⟩, hf⟩ := fits1 hf
      obtain rfl := fits0 hf
      obtain ⟨xs, rfl, xl, hx⟩ := fit_a f1
      obtain ⟨y, rfl, y0, y1⟩ := fit_n f2
      rw [mean_rule (f := mRead) rfl]
      have hy : y.toNat < xs.length := by rw [xl]; exact toNat_lt y0 y1
      show 0 ≤ xs.getD y.toNat 0 ∧ xs.getD y.toNat 0 < 2 ^ n
      rw [getD0 hy]
      exact hx _ (List.getElem_mem hy)
    · rw [kind_rule (g := kWritten) rfl] at hk
      obtain ⟨p, n, rfl, rfl, rfl⟩ := inv_written hk
      obtain ⟨w1, vs, rfl, f1, ⟨p1, p2, n1, n2⟩, hf⟩ := fits1 hf
      obtain ⟨w2, vs, rfl, f2, ⟨m1, m2⟩, hf⟩ := fits1 hf
      obtain ⟨w3, vs, rfl, f3, ⟨m3, m4⟩, hf⟩ := fits1 hf
      obtain rfl := fits0 hf
      obtain ⟨xs, rfl, xl, hx⟩ := fit_a f1
      obtain ⟨y, rfl, y0, y1⟩ := fit_n f2
      obtain ⟨z, rfl, z0, z1⟩ := fit_n f3
      rw [mean_rule (f := mWrite) rfl]
      have hy : y.toNat < xs.length := by rw [xl]; exact toNat_lt y0 y1
      refine ⟨?_, ?_⟩
      · simp only [List.length_append, List.length_take, List.length_drop, List.length_cons, List.length_nil]
        omega
      · intro v hv
        simp only [List.mem_append, List.mem_singleton] at hv
        rcases hv with (hv | rfl) | hv
        · exact hx v (List.mem_of_mem_take hv)
        · exact ⟨z0, z1⟩
        · exact hx v (List.mem_of_mem_drop hv)
theorem lookup_mem {mv : List (Str × Wo)} {x : Str} {wo : Wo} (h : mv.lookup x = some wo) : (x, wo) ∈ mv := look_mem h
theorem BankOk.nm {ts : Ts} (h : BankOk ts) {i : Nat} {x : Str} {k : Kd} (e : ndAt ts i = some (.nm x k)) : kindAt ts i = k ∧ k.ok ∧ isNm x = true := by
  have hi := ndAt_lt e
  have e2 : ts[i]? = some ts[i] := by simp [hi]
  have e3 : ts[i].1 = .nm x k := by simpa [ndAt, hi] using e
  have e4 : kindAt ts i = ts[i].2 := by simp [kindAt, hi]
  have q := h.ok i _ e2
  rw [e4]
  revert q e3
  rcases ts[i] with ⟨m, k'⟩
  rintro rfl q
  exact q
theorem BankOk.ap {ts : Ts} (h : BankOk ts) {i : Nat} {w : Str} {ps : List Nat} {ms : List Int} (e : ndAt ts i = some (.ap w ps ms)) : (∀ p ∈ ps, p < i) ∧ kindOf w (ps.map (kindAt ts)) (dIs ms) = some (kindAt ts i) := by
  have hi := ndAt_lt e
  have e2 : ts[i]? = some ts[i] := by simp [hi]
  have e3 : ts[i].1 = .ap w ps ms := by simpa [ndAt, hi] using e
  have e4 : kindAt ts i = ts[i].2 := by simp [kindAt, hi]
  have q := h.ok i _ e2
  rw [e4]
  revert q e3
  rcases ts[i] with ⟨m, k'⟩
  rintro rfl q
  exact ⟨q.1, q.2.1⟩
theorem given_fits {ts : Ts} {mv : List (Str × Wo)} (hm : MdlOk ts mv) (ho : BankOk ts) {i : Nat} {x : Str} {k : Kd} (e : ndAt ts i = some (.nm x k)) : ((mv.lookup x).getD (plainW k)).fits k := by
  cases q : mv.lookup x with
  | none => exact plain_fits k
  | some wo =>
    obtain ⟨_, _, j, k', e1, e2⟩ := hm.ok _ (lookup_mem q)
    obtain rfl := ho.nms i j x _ _ e e1
    rw [e] at e1; cases e1
    exact e2
theorem fits_map {ts : Ts} {ws : List Wo} {ps : List Nat} (h : ∀ p ∈ ps, (woAt ws p).fits (kindAt ts p) ∧ (kindAt ts p).ok) : Fits (ps.map (woAt ws)) (ps.map (kindAt ts)) := by
  induction ps with
  | nil => trivial
  | cons p ps ih =>
    obtain ⟨h1, h2⟩ := h p (by simp)
    exact ⟨h1, h2, ih fun q hq => h q (by simp [hq])⟩
theorem means_fit {ts : Ts} {mv : List (Str × Wo)} {ws : List Wo} (hm : MdlOk ts mv) (ho : BankOk ts) (hw : IsMeans (fun x => mv.lookup x) ts ws) : ∀ n i : Nat, i < n → i < ts.length → (woAt ws i).fits (kindAt ts i) := by
  intro n
  induction n with
  | zero => intro i h; omega
  | succ n ih =>
    intro i hn hi
    have e2 : ts[i]? = some ts[i] := by simp [hi]
    rw [hw.at_ i _ e2]
    have en : ndAt ts i = some ts[i].1 := by simp [ndAt, hi]
    cases q : ts[i].1 with
    | nm x k =>
      rw [q] at en
      rw [(ho.nm en).1]
      exact given_fits hm ho en
    | ap w ps ms =>
      rw [q] at en
      obtain ⟨h1, h2⟩ := ho.ap en
      refine mean_fits h2 (fits_map fun p hp => ?_)
      have := h1 p hp
      exact ⟨ih p (by omega) (by omega), ho.kind (by omega)⟩

/-! ### a model, handed in -/
theorem valD_of_mem {k : Key} {d : D} : ∀ {kvs : List (Key × D)}, (kvs.map (·.1)).Nodup → (k, d) ∈ kvs → valD kvs k = some d
  | [], _, h => by simp at h
  | p :: kvs, hn, h => by
    simp only [List.map_cons, List.nodup_cons] at hn
    rcases List.mem_cons.mp h with rfl | h
    · simp [valD]
    · have : p.1 ≠ k := fun z => hn.1 (by rw [z]; exact List.mem_map.mpr ⟨_, h, rfl⟩)
      have ih := valD_of_mem hn.2 h
      unfold valD at ih ⊢
      simp only [List.find?_cons, this, decide_false]
      exact ih
theorem valD_no {k : Key} {kvs : List (Key × D)} (h : ∀ p ∈ kvs, p.1 ≠ k) : valD kvs k = none := by
  unfold valD
  rw [Option.map_eq_none_iff, List.find?_eq_none]
  intro p hp
  simpa using h p hp
theorem merge_app : ∀ {kvs acc : List (Key × D)}, ((acc ++ kvs).map (·.1)).Nodup → mergeD acc kvs = acc ++ kvs
  | [], acc, _ => by simp [mergeD]
  | p :: kvs, acc, h => by
    show mergeD (putD acc p.1 p.2) kvs = _
    have h1 : ∀ q ∈ acc, q.1 ≠ p.1 := by
      intro q hq e
      rw [List.map_append, List.nodup_append] at h
      exact h.2.2 q.1 (List.mem_map.mpr ⟨q, hq, rfl⟩) p.1 (by simp) e
    rw [putD_newB (valD_no h1), merge_app]
    · simp
    · simpa using h
theorem merge_nil {kvs : List (Key × D)} (h : (kvs.map (·.1)).Nodup) : mergeD [] kvs = kvs := merge_app (acc := []) (by simpa using h)
theorem ltT_ne {x y : Str} (h : ltT x y = true) : x ≠ y := fun e => by subst e; rw [ltT_irr] at h; cases h
theorem nmPairs_mem {x : Str} {d : D} : ∀ {ts : Ts}, (x, d) ∈ nmPairs ts → ∃ i k, ndAt ts i = some (.nm x k) ∧ d = k.d
  | [], h => by simp [nmPairs] at h
  | (.nm y k, k') :: ts, h => by
    simp only [nmPairs, List.mem_cons] at h
    rcases h with h | h
    · cases h; exact ⟨0, k, rfl, rfl⟩
    · obtain ⟨i, k2, h1, h2⟩ := nmPairs_mem h
      exact ⟨i + 1, k2, by simpa [ndAt] using h1, h2⟩
  | (.ap w ps ms, k') :: ts, h => by
    simp only [nmPairs] at h
    obtain ⟨i, k2, h1, h2⟩ := nmPairs_mem h
    exact ⟨i + 1, k2, by simpa [ndAt] using h1, h2⟩
theorem nmPairs_in {x : Str} {k : Kd} : ∀ {ts : Ts} {i : Nat}, ndAt ts i = some (.nm x k) → (x, k.d) ∈ nmPairs ts
  | [], i, h => by simp [ndAt] at h
  | (n, k') :: ts, 0, h => by
    have : n = .nm x k := by simpa [ndAt] using h
    subst this
    simp [nmPairs]
  | (n, k') :: ts, i + 1, h => by
    have h' : ndAt ts i = some (.nm x k) := by simpa [ndAt] using h
    have := nmPairs_in h'
    cases n with
    | nm y k2 => simp only [nmPairs, List.mem_cons]; exact .inr this
    | ap w ps ms => simpa only [nmPairs] using this
theorem nmPairs_nodup : ∀ {ts : Ts}, (∀ i j x k k', ndAt ts i = some (Nd.nm x k) → ndAt ts j = some (Nd.nm x k') → i = j) → ((nmPairs ts).map (·.1)).Nodup
  | [], _ => by simp [nmPairs]
  | (n, k') :: ts, h => by
    have ih := nmPairs_nodup (ts := ts) fun i j x k k' e e' => by
      have := h (i + 1) (j + 1) x k k' (by simpa [ndAt] using e) (by simpa [ndAt] using e')
      omega
    cases n with
    | nm y k =>
      simp only [nmPairs, List.map_cons, List.nodup_cons]
      refine ⟨?_, ih⟩
      intro q
      obtain ⟨⟨z, d⟩, hp, e⟩ := List.mem_map.mp q
      cases e
      obtain ⟨i, k2, h1, _⟩ := nmPairs_mem hp
      have := h 0 (i + 1) _ k k2 rfl (by simpa [ndAt] using h1)
      omega
    | ap w ps ms => simpa only [nmPairs] using ih
def kvT (l : List (Str × D)) : List (Key × D) := l.map fun p => (.inr p.1, p.2)
theorem kvT_pairs : ∀ l : List (Str × D), pairsD (l.map pairD) = some (kvT l)
  | [] => rfl
  | p :: l => by
    have ih := kvT_pairs l
    simp only [List.map_cons, pairD, pairsD, toK]
    rw [show pairsD (l.map pairD) = _ from ih]
    rfl
theorem kvT_keys (l : List (Str × D)) (h : (l.map (·.1)).Nodup) : ((kvT l).map (·.1)).Nodup := by
  have : (kvT l).map (·.1) = (l.map (·.1)).map Sum.inr := by simp [kvT, List.map_map, Function.comp_def]
  rw [this, List.nodup_iff_pairwise_ne, List.pairwise_map]
  rw [List.nodup_iff_pairwise_ne] at h
  exact h.imp fun {a b} q z => q (by injection z)
/-- a model's pairs -/
theorem mdl_pairs : ∀ {xs : List D} {mv : List (Str × Wo)}, MdlD xs mv → ∃ l : List (Str × D), xs = l.map pairD ∧ l.map (·.1) = mv.map (·.1) ∧ ∀ (i : Nat) (p : Str × D) (q : Str × Wo), l[i]? = some p → mv[i]? = some q → WoD p.2 q.2
  | [], [], _ => ⟨[], rfl, rfl, by simp⟩
  | [], _ :: _, h => by cases h
  | _ :: _, [], h => by cases h
  | d :: xs, p :: mv, h => by
    obtain ⟨⟨e, rfl, he⟩, h2⟩ := h
    obtain ⟨l, rfl, h3, h4⟩ := mdl_pairs h2
    refine ⟨(p.1, e) :: l, rfl, by simp [h3], ?_⟩
    intro i a b ha hb
    cases i with
    | zero => simp at ha hb; subst ha hb; exact he
    | succ i => exact h4 i a b (by simpa using ha) (by simpa using hb)
theorem mdl_val {l : List (Str × D)} : ∀ {mv : List (Str × Wo)}, l.map (·.1) = mv.map (·.1) → (∀ (i : Nat) (p : Str × D) (q : Str × Wo), l[i]? = some p → mv[i]? = some q → WoD p.2 q.2) → (mv.map (·.1)).Nodup → ∀ x, (∃ e wo, valD (kvT l) (.inr x) = some e ∧ mv.lookup x = some wo ∧ WoD e wo) ∨ (valD (kvT l) (.inr x) = none ∧ mv.lookup x = none) := by
  intro mv h1 h2 h3 x
  cases q : mv.lookup x with
  | some wo =>
    have hm := look_mem q
    obtain ⟨i, hi, e⟩ := List.mem_iff_getElem.mp hm
    have hl : l.length = mv.length := by have := congrArg List.length h1; simpa using this
    have e1 : l[i]? = some l[i] := by simp [show i < l.length by omega]
    have e2 : mv[i]? = some (x, wo) := by rw [← e]; simp [hi]
    have hx : l[i].1 = x := by
      have : (l.map (·.1))[i]? = (mv.map (·.1))[i]? := by rw [h1]
      rw [List.getElem?_map, List.getElem?_map, e1, e2] at this
      simpa using this
    have hmem : ((.inr x, l[i].2) : Key × D) ∈ kvT l := List.mem_map.mpr ⟨l[i], List.getElem_mem (by omega), by rw [hx]⟩
    exact .inl ⟨l[i].2, wo, valD_of_mem (kvT_keys l (by rw [h1]; exact h3)) hmem, rfl, h2 i _ _ e1 e2⟩
  | none =>
    refine .inr ⟨valD_no ?_, rfl⟩
    intro p hp e
    obtain ⟨r, hr, rfl⟩ := List.mem_map.mp hp
    have : r.1 ∈ mv.map (·.1) := by rw [← h1]; exact List.mem_map.mpr ⟨r, hr, rfl⟩
    obtain ⟨s, hs, e2⟩ := List.mem_map.mp this
    have := look_none q s hs
    simp only [Sum.inr.injEq] at e
    exact this (e2.trans e)
theorem mdl_nodup {ts : Ts} {mv : List (Str × Wo)} (h : MdlOk ts mv) : (mv.map (·.1)).Nodup := by
  rw [List.nodup_iff_pairwise_ne, List.pairwise_map]
  exact h.asc.imp fun {a b} q => ltT_ne q
theorem sem_need_model (c : Cl) : ∀ ds st R xq, spneed_model c ds st R xq → wneed_model c (EndsOf R xq) (startD ["bank", "model", "kinds", "last", "name", "worth"] ds) st := by
  rintro ds st R xq ⟨B, ts, d, xs, mv, rfl, hb, ho, sq, md, mo, k⟩
  show wneed_model c ⟨_, _, _, _, _⟩ [some (.hdl B.b), some d, none, none, none, none] st
  unfold wneed_model
  walk_at "s"
  refine ⟨hb.is, B, ts, rfl, hb, ho, ?_⟩
  walk_at "s"
  refine dDictA_l (kvT_pairs _) ?_
  have hn := kvT_keys _ (nmPairs_nodup ho.nms)
  rw [merge_nil hn]
  walk_at "s"
  have sq1 : SeqA [] (st ++ [Cell.dK (kvT (nmPairs ts))]) d xs := sq.fx (F' := []) Fx.refl.app (by simp)
  generalize hs1 : st ++ [Cell.dK (kvT (nmPairs ts))] = st1
  rw [hs1] at sq1
  have f1 : Fx [] st st1 := by rw [← hs1]; exact Fx.refl.app
  have hk : st1[st.length]? = some (.dK (kvT (nmPairs ts))) := by rw [← hs1]; exact appN
  refine sq1.it fun inv hinv => ?_
  obtain ⟨asc, ok⟩ := mo
  refine forD_ind (fun ys ρ st' => st' = st1 ∧ ∃ (ms : List (Str × Wo)) (last : Str) (z y : Option D), MdlD ys ms ∧ (ms.Pairwise fun p q => ltT p.1 q.1 = true) ∧ (∀ p ∈ ms, p ∈ mv) ∧ (∀ p ∈ ms, ltT last p.1 = true) ∧ ρ = [some (.hdl B.b), some d, some (.hdl st.length), some (.str last), z, y]) ?_ ?_ _ _ _ ⟨rfl, mv, "", none, none, md, asc, fun _ h => h, ?_, rfl⟩
  · rintro ρ st' ⟨rfl, _⟩
    exact ⟨hinv _ .refl, k _ f1⟩
  · rintro x ys ρ st' K ⟨rfl, ms, last, z, y, hmd, hasc, hin, hlast, rfl⟩ hK
    cases ms with
    | nil => cases hmd
    | cons p ms =>
    obtain ⟨⟨e, rfl, he⟩, hmd⟩ := hmd
    refine ⟨hinv _ .refl, ?_⟩
    obtain ⟨l1, l2, i, kd, hi, hf⟩ := ok p (hin p (by simp))
    obtain ⟨_, hkok, _⟩ := ho.nm hi
    have hval : valD (kvT (nmPairs ts)) (.inr p.1) = some kd.d := valD_of_mem hn (List.mem_map.mpr ⟨_, nmPairs_in hi, rfl⟩)
    walk_at "s"
    refine dIN_k hk (key := .inr p.1) rfl ?_
    rw [hval]
    walk_at "s"
    have hle : strLe p.1 last = false := by
      have := hlast p (by simp)
      unfold ltT at this
      unfold strLe
      rw [this]; rfl
    rw [hle]
    walk_at "s"
    refine dIx_k hk (key := .inr p.1) rfl hval ?_
    walk_at "s"
    refine ⟨e, p.2, kd, rfl, he, hf, hkok, ?_⟩
    walk_at "s"
    refine hK _ _ ⟨rfl, ms, p.1, _, _, hmd, (List.pairwise_cons.mp hasc).2, fun q hq => hin q (by simp [hq]), fun q hq => (List.pairwise_cons.mp hasc).1 q hq, rfl⟩
  · intro p hp
    obtain ⟨l1, _⟩ := ok p hp
    unfold ltT
    refine decide_eq_true ?_
    have : p.1.cps.toList ≠ [] := by
      intro e
      have := congrArg List.length e
      rw [len_cps] at this
      simp at this; omega
    cases e : p.1.cps.toList with
    | nil => exact absurd e this
    | cons a l => exact List.nil_lt_cons a l

/-! ### the worths of all terms under some -/
def wkv (ws : List Wo) (F : List Nat) : List (Key × D) := F.map fun (i : Nat) => (.inl (i : Int), (woAt ws i).d)
theorem wkv_val (ws : List Wo) (F : List Nat) (i : Nat) : valD (wkv ws F) (.inl (i : Int)) = if i ∈ F then some (woAt ws i).d else none := by
  induction F with
  | nil => rfl
  | cons a F ih =>
    unfold wkv valD at ih ⊢
    by_cases e : a = i
    · subst e; simp
    · have e' : ¬ i = a := fun z => e z.symm
      have e2 : ¬ ((a : Int) = (i : Int)) := by omega
      simp only [List.map_cons, List.find?_cons, Sum.inl.injEq, e2, decide_false, List.mem_cons, e', false_or]
      exact ih
theorem wo_list {st : Sto} {e : D} {wo : Wo} (h : WoD e wo) : ∃ t b, tyD st e = some t ∧ kitB t "list" = some b ∧ (b = true → ∃ xs, e = .lst (dIs xs) ∧ wo = .a xs) ∧ (b = false → e = wo.d) := by
  rcases h with rfl | ⟨xs, rfl, rfl⟩
  · cases wo with
    | t b => exact ⟨"bool", false, rfl, rfl, fun q => (by cases q), fun _ => rfl⟩
    | n i => exact ⟨"int", false, rfl, rfl, fun q => (by cases q), fun _ => rfl⟩
    | a xs => exact ⟨"tuple", false, rfl, rfl, fun q => (by cases q), fun _ => rfl⟩
  · exact ⟨"list", true, rfl, rfl, fun _ => ⟨xs, rfl, rfl⟩, fun q => (by cases q)⟩
theorem rule_name : ruleOf "name" = none := rfl
theorem sem_worths_under (c : Cl) : ∀ ds st R xq, spworths_under c ds st R xq → wworths_under c (EndsOf R xq) (startD ["bank", "terms", "model", "given", "found", "term", "word", "parts", "marks", "worth", "part"] ds) st := by
  rintro ds st R xq ⟨B, ts, d, dm, l, xs, mv, ws, rfl, hb, ho, hts, sq, ll, hl, sm, hdm, md, mo, mw, k⟩
  show wworths_under c ⟨_, _, _, _, _⟩ [some (.hdl B.b), some d, some dm, none, none, none, none, none, none, none, none] st
  unfold wworths_under
  obtain ⟨pl, rfl, e1, e2⟩ := mdl_pairs md
  have hmn := mdl_nodup mo
  have hval := mdl_val e1 e2 hmn
  have hkeys := kvT_keys pl (by rw [e1]; exact hmn)
  have dict : ∀ {R : DQ}, R (.hdl st.length) (st ++ [.dK (kvT pl)]) → dDictA [dm] st R := by
    intro R h
    have h' : R (.hdl st.length) (st ++ [.dK (mergeD [] (kvT pl))]) := by rw [merge_nil hkeys]; exact h
    rcases sm with rfl | rfl | ⟨j, _, rfl, h3⟩
    · exact dDictA_l (kvT_pairs pl) h'
    · rcases hdm with h | ⟨j, h⟩ <;> cases h
    · exact dDictA_q (dr_hdl h3) (kvT_pairs pl) h'
  walk_at "s"
  refine dict ?_
  walk_at "s"
  generalize hs1 : (st ++ [Cell.dK (kvT pl)]) ++ [Cell.dK []] = st1
  have l1 : (st ++ [Cell.dK (kvT pl)]).length = st.length + 1 := by simp
  rw [l1]
  have f1 : Fx [] st st1 := by rw [← hs1]; exact Fx.refl.app.app
  have g1 : st1[st.length]? = some (.dK (kvT pl)) := by rw [← hs1]; exact appL appN
  have w1 : st1[st.length + 1]? = some (.dK (wkv ws [])) := by rw [← hs1, ← l1]; exact appN
  refine ⟨B, ts, d, l, rfl, hb.fx f1 (by simp) (by simp), ho, sq.fx f1 (by simp), ll, hl, hts, ?_⟩
  intro ys st2 hy hasc f2
  walk_at "s"
  have hyl : ∀ i ∈ ys, i < ts.length := by
    intro i hi
    refine (hy i).mp hi (fun i => i < ts.length) hl ?_
    intro j w ps ms hj ej p hp
    have := (ho.ap ej).1 p hp
    omega
  have hyn : ys.Nodup := by
    rw [List.nodup_iff_pairwise_ne]
    exact hasc.imp fun {a b} q => Nat.ne_of_lt q
  have hylen : ys.length ≤ 63 := hts ys hyn fun i hi => (hy i).mp hi
  have hcl : ∀ i ∈ ys, ∀ w ps ms, ndAt ts i = some (.ap w ps ms) → ∀ p ∈ ps, p ∈ ys := by
    intro i hi w ps ms ei p hp
    refine (hy p).mpr ?_
    intro P h1 h2
    exact h2 i w ps ms ((hy i).mp hi P h1 h2) ei p hp
  refine forD_ind (fun zs ρ st' => ∃ (done left : List Nat) (z5 z6 z7 z8 z9 : Option D), ys = done ++ left ∧ zs = dNs left ∧ ρ = [some (.hdl B.b), some d, some dm, some (.hdl st.length), some (.hdl (st.length + 1)), z5, z6, z7, z8, z9, none] ∧ Fx [] st st' ∧ st.length + 2 ≤ st'.length ∧ st'[st.length]? = some (.dK (kvT pl)) ∧ st'[st.length + 1]? = some (.dK (wkv ws done))) ?_ ?_ _ _ _ ⟨[], ys, none, none, none, none, none, rfl, rfl, rfl, f1.trans f2 (by simp), ?_, f2.at g1 (by simp), f2.at w1 (by simp)⟩
  · rintro ρ st' ⟨done, left, z5, z6, z7, z8, z9, q1, q2, rfl, fx, hlen, g', w'⟩
    have : left = [] := by cases left with | nil => rfl | cons _ _ => cases q2
    subst this
    rw [List.append_nil] at q1
    subst q1
    refine ⟨trivial, ?_⟩
    walk_at "s"
    refine k (st.length + 1) _ st' fx (by omega) w' ?_
    intro i hi
    rw [wkv_val, if_pos ((hy i).mpr hi)]
  · rintro x zs ρ st' K ⟨done, left, z5, z6, z7, z8, z9, q1, q2, rfl, fx, hlen, g', w'⟩ hK
    cases left with
    | nil => cases q2
    | cons t left =>
    cases q2
    refine ⟨trivial, ?_⟩
    have ht : t ∈ ys := by rw [q1]; simp
    have htl := hyl t ht
    have hb' : BankAt c B ts st' := hb.fx fx (by simp) (by simp)
    have et : ts[t]? = some ts[t] := by simp [htl]
    have en : ndAt ts t = some ts[t].1 := by simp [ndAt, htl]
    have hmean := mw.at_ t _ et
    have htd : t ∉ done := by
      rw [q1, List.nodup_append] at hyn
      exact fun z => hyn.2.2 t z t (by simp) rfl
    have hdl : done.length ≤ 63 := by
      have := congrArg List.length q1
      simp at this; omega
    have hwl : (wkv ws done).length = done.length := by simp [wkv]
    have tail : ∀ (z5 z6 z7 z8 z9 : Option D) (e : D), e = (woAt ws t).d → K [some (.hdl B.b), some d, some dm, some (.hdl st.length), some (.hdl (st.length + 1)), z5, z6, z7, z8, z9, none] (st'.set (st.length + 1) (.dK (putD (wkv ws done) (.inl (t : Int)) e))) := by
      rintro z5 z6 z7 z8 z9 e rfl
      refine hK _ _ ⟨done ++ [t], left, z5, z6, z7, z8, z9, by rw [q1]; simp, rfl, rfl, fx.set (.inr (by omega)), by rw [List.length_set]; exact hlen, by rw [List.getElem?_set_ne (by omega)]; exact g', ?_⟩
      rw [putD_newB (by rw [wkv_val, if_neg htd]), setSame w']
      simp [wkv]
    walk_at "s"
    refine ⟨hb'.is, ?_⟩
    walk_at "s"
    refine ⟨B, ts, t, ts[t], rfl, hb', et, ?_⟩
    cases q : ts[t].1 with
    | nm x kd =>
      rw [q] at hmean en
      obtain ⟨hk1, hkok, hnm⟩ := ho.nm en
      refine gTp_i (ds := (Nd.nm x kd).its) rfl ?_
      refine gsCons_i ?_
      walk_at "s"
      refine ⟨isKD_h g', ?_⟩
      walk_at "s"
      refine ixT0 ?_
      walk_at "s"
      refine ixT1 ?_
      walk_at "s"
      refine ⟨kd, rfl, hkok, ?_⟩
      refine onK_h g' ⟨.inr x, rfl, ?_⟩
      have hwo : WoD ((valD (kvT pl) (.inr x)).getD (plainW kd).d) (woAt ws t) := by
        rw [hmean]
        show WoD _ ((mv.lookup x).getD (plainW kd))
        rcases hval x with ⟨e, wo, h1, h2, h3⟩ | ⟨h1, h2⟩
        · rw [h1, h2]; exact h3
        · rw [h1, h2]; exact .inl rfl
      generalize (valD (kvT pl) (.inr x)).getD (plainW kd).d = e at hwo
      obtain ⟨ty, b, y1, y2, y3, y4⟩ := wo_list (st := st') hwo
      walk_at "s"
      refine ⟨ty, b, y1, y2, ?_⟩
      refine onB_i ?_
      cases b with
      | true =>
        obtain ⟨vs, rfl, hv⟩ := y3 rfl
        refine ifT rfl ?_
        walk_at "s"
        refine dSet_k w' (by rw [hwl]; simp only [sizeLine]; omega) (key := .inl (t : Int)) rfl ?_
        refine tail _ _ _ _ _ _ ?_
        rw [hv]; rfl
      | false =>
        refine ifF (by decide) ?_
        walk_at "s"
        refine dSet_k w' (by rw [hwl]; simp only [sizeLine]; omega) (key := .inl (t : Int)) rfl ?_
        exact tail _ _ _ _ _ _ (y4 rfl)
    | ap w ps ms =>
      rw [q] at hmean en
      obtain ⟨h1, h2⟩ := ho.ap en
      have hwn : w ≠ "name" := by
        rintro rfl
        unfold kindOf at h2
        rw [rule_name] at h2
        cases h2
      have h3 := (ho.parts en).1
      simp only [ndParts] at h3
      refine gTp_i (ds := (Nd.ap w ps ms).its) rfl ?_
      refine gsCons_i ?_
      walk_at "s"
      refine ifF (by simp [xorB, hwn]) ?_
      walk_at "s"
      refine lcD_ind (fun xs acc st'' => st'' = st' ∧ ∃ d2 l2 : List Nat, ps = d2 ++ l2 ∧ xs = dNs l2 ∧ acc = d2.map fun p => (kindAt ts p).d) ?_ ?_ _ _ _ ⟨rfl, [], ps, rfl, rfl, rfl⟩
      · rintro acc st'' ⟨rfl, d2, l2, q3, q4, rfl⟩
        have : l2 = [] := by cases l2 with | nil => rfl | cons _ _ => cases q4
        subst this
        rw [List.append_nil] at q3
        subst q3
        refine ⟨trivial, ?_⟩
        walk_at "s"
        refine lcD_ind (fun xs acc st3 => st3 = st'' ∧ ∃ d3 l3 : List Nat, ps = d3 ++ l3 ∧ xs = dNs l3 ∧ acc = d3.map fun p => (woAt ws p).d) ?_ ?_ _ _ _ ⟨rfl, [], ps, rfl, rfl, rfl⟩
        · rintro acc st3 ⟨rfl, d3, l3, q5, q6, rfl⟩
          have : l3 = [] := by cases l3 with | nil => rfl | cons _ _ => cases q6
          subst this
          rw [List.append_nil] at q5
          subst q5
          refine ⟨trivial, ?_⟩
          walk_at "s"
          refine ⟨w, ms, ps.map (kindAt ts), ps.map (woAt ws), kindAt ts t, by rw [List.map_map, List.map_map]; rfl, h2, fits_map fun p hp => ?_, ?_⟩
          · have := h1 p hp
            exact ⟨means_fit mo ho mw (p + 1) p (by omega) (by omega), ho.kind (by omega)⟩
          · walk_at "s"
            refine dSet_k w' (by rw [hwl]; simp only [sizeLine]; omega) (key := .inl (t : Int)) rfl ?_
            exact tail _ _ _ _ _ _ (by rw [hmean]; rfl)
        · rintro y xs acc st3 K' ⟨rfl, d3, l3, q5, q6, rfl⟩ hK'
          cases l3 with
          | nil => cases q6
          | cons p l3 =>
          cases q6
          refine ⟨trivial, ?_⟩
          walk_at "s"
          have hpp : p ∈ ps := by rw [q5]; simp
          have hpd : p ∈ done := by
            have h5 := hcl t ht w ps ms en p hpp
            have h6 := h1 p hpp
            rw [q1] at h5 hasc
            rw [List.pairwise_append] at hasc
            rcases List.mem_append.mp h5 with h5 | h5
            · exact h5
            · rcases List.mem_cons.mp h5 with rfl | h5
              · omega
              · have := (List.pairwise_cons.mp hasc.2.1).1 p h5
                omega
          refine dIx_k w' (key := .inl (p : Int)) rfl (by rw [wkv_val, if_pos hpd]) ?_
          refine ⟨?_, hK' _ _ ⟨rfl, d3 ++ [p], l3, by rw [q5]; simp, rfl, by simp⟩⟩
          have := congrArg List.length q5
          simp at this
          simp only [List.length_map, sizeLine]; omega
      · rintro y xs acc st'' K' ⟨rfl, d2, l2, q3, q4, rfl⟩ hK'
        cases l2 with
        | nil => cases q4
        | cons p l2 =>
        cases q4
        refine ⟨trivial, ?_⟩
        walk_at "s"
        refine ⟨hb'.is, ?_⟩
        walk_at "s"
        have hpp : p ∈ ps := by rw [q3]; simp
        have := h1 p hpp
        refine ⟨B, ts, p, rfl, hb', by omega, ?_⟩
        refine ⟨?_, hK' _ _ ⟨rfl, d2 ++ [p], l2, by rw [q3]; simp, rfl, by simp⟩⟩
        have := congrArg List.length q3
        simp at this
        simp only [List.length_map, sizeLine]; omega
  · have := ltOf w1
    have := f2.len
    omega
theorem sem_worth_of (c : Cl) : ∀ ds st R xq, spworth_of c ds st R xq → wworth_of c (EndsOf R xq) (startD ["bank", "term", "model"] ds) st := by
  rintro ds st R xq ⟨B, ts, i, dm, xs, mv, ws, rfl, hb, ho, hts, hi, sm, hdm, md, mo, mw, k⟩
  show wworth_of c ⟨_, _, _, _, _⟩ [some (.hdl B.b), some (.int i), some dm] st
  unfold wworth_of
  walk_at "s"
  refine ⟨hb.is, ?_⟩
  walk_at "s"
  refine ⟨B, ts, i, rfl, hb, hi, ?_⟩
  walk_at "s"
  refine ⟨B, ts, dm, xs, mv, rfl, hb, ho, sm, md, mo, ?_⟩
  intro st1 f1
  walk_at "s"
  refine ⟨B, ts, .lst [.int i], dm, [i], xs, mv, ws, rfl, hb.fx f1 (by simp) (by simp), ho, hts, .inl rfl, by simp, by simpa using hi, sm.fx f1 (by simp), hdm, md, mo, mw, ?_⟩
  intro h kvs st2 f2 hh he hv
  walk_at "s"
  exact dIx_k he (key := .inl (i : Int)) rfl (hv i fun P h1 _ => h1 i (by simp)) (k st2 (f1.trans f2 (by simp)))

/-! ### the draws -/
theorem dAbs_i {st : Sto} {R : DQ} {i : Int} (h : R (.int (if i < 0 then -i else i)) st) : dAbs [.int i] st R := h
theorem cut63 {ns : List Int} : cutD (dIs ns) none (some 63) = dIs (ns.take 63) := by
  unfold cutD
  have h : HT.sIx (dIs ns).length (dIs ns).length (some 63) = min 63 (dIs ns).length := HT.sIx_nat _ _ 63
  rw [HT.sIx_none, h, Nat.sub_zero, List.drop_zero]
  by_cases q : 63 ≤ ns.length
  · rw [List.length_map, Nat.min_eq_left q]; simp
  · rw [List.length_map, Nat.min_eq_right (by omega), List.take_of_length_le (by simp), List.take_of_length_le (by omega)]
theorem pow_mono2 {a b : Nat} (h : a ≤ b) : (2 : Int) ^ a ≤ 2 ^ b := by
  have := Nat.pow_le_pow_right (n := 2) (by decide) h
  rw [← powC a, ← powC b]
  omega
theorem sem_law_spring (c : Cl) : ∀ ds st R xq, sp_law_spring c ds st R xq → w_law_spring c (EndsOf R xq) (startD ["_law_script", "_law_figures", "_law_stir", "_law_cell"] ds) st := by
  rintro ds st R xq ⟨ns, rfl, hns, k⟩
  show w_law_spring c ⟨_, _, _, _, _⟩ [some (.scr (dIs ns)), none, none, none] st
  unfold w_law_spring
  walk_at "s"
  rw [cut63]
  refine forD_ind (fun zs ρ st' => st' = st ∧ ∃ (left : List Int) (f s : Int) (z : Option D) (j : Nat), zs = dIs left ∧ j + left.length ≤ 63 ∧ 0 ≤ f ∧ f < 2 ^ (200 * j) ∧ 0 ≤ s ∧ s < 2305843009213693951 ∧ ρ = [some (.scr (dIs ns)), some (.int f), some (.int s), z]) ?_ ?_ _ _ _ ⟨rfl, ns.take 63, 0, 88651, none, 0, rfl, by rw [List.length_take]; omega, by omega, by decide, by omega, by omega, rfl⟩
  · rintro ρ st' ⟨rfl, left, f, s, z, j, q1, q2, f0, f1, s0, s1, rfl⟩
    refine ⟨trivial, ?_⟩
    walk_at "s"
    refine k _ ⟨f, s, 0, rfl, f0, ?_, s0, s1, Int.le_refl _, Int.le_refl _⟩
    exact Int.lt_of_lt_of_le f1 (pow_mono2 (by omega))
  · rintro x xs ρ st' K ⟨rfl, left, f, s, z, j, q1, q2, f0, f1, s0, s1, rfl⟩ hK
    cases left with
    | nil => cases q1
    | cons a left =>
    cases q1
    simp only [List.length_cons] at q2
    refine ⟨trivial, ?_⟩
    walk_at "s"
    have stir : ∀ (f' : Int), 0 ≤ f' → f' < 2 ^ (200 * (j + 1)) → K [some (.scr (dIs ns)), some (.int f'), some (.int ((s * 69069 + a % 2305843009213693921 + 7) % 2305843009213693951)), some (.int a)] st' := by
      intro f' h0 h1
      exact hK _ _ ⟨rfl, left, f', _, _, j + 1, rfl, by omega, h0, h1, Int.emod_nonneg _ (by omega), Int.emod_lt_of_pos _ (by omega), rfl⟩
    have grow : (2 : Int) ^ (200 * j) * 2 ^ 200 = 2 ^ (200 * (j + 1)) := by rw [← Int.pow_add, show 200 * j + 200 = 200 * (j + 1) by omega]
    have stay : (2 : Int) ^ (200 * j) ≤ 2 ^ (200 * (j + 1)) := pow_mono2 (by omega)
    refine dAbs_i ?_
    walk_at "s"
    refine dII_i ⟨by decide, by decide, by decide⟩ ?_
    walk_at "s"
    generalize ht : decide ((10 : Int) ^ (18 : Int).toNat ≤ if a < 0 then -a else a) = t
    cases t with
    | true =>
      refine ifT rfl ?_
      walk_at "s"
      refine dII_i ⟨by decide, by decide, by decide⟩ ?_
      walk_at "s"
      have e60 : (10 : Int) ^ (60 : Int).toNat = 1000000000000000000000000000000000000000000000000000000000000 := by decide
      rw [e60]
      have f1' : f.natAbs < 2 ^ (200 * j) := by have := powC (200 * j); omega
      refine dMulA_i (mulx_ok (a := 200 * j) (b := 200) f1' (by decide) (by omega)) ?_
      walk_at "s"
      refine dAbs_i ?_
      walk_at "s"
      refine dII_i ⟨by decide, by decide, by decide⟩ ?_
      walk_at "s"
      rw [e60]
      refine dII_i (by decide) ?_
      walk_at "s"
      generalize hr : (if a < 0 then -a else a) % 1000000000000000000000000000000000000000000000000000000000000 = r
      have hr0 : 0 ≤ r ∧ r < 1000000000000000000000000000000000000000000000000000000000000 := by subst hr; exact ⟨Int.emod_nonneg _ (by decide), Int.emod_lt_of_pos _ (by decide)⟩
      refine dMulA_i (cmx (by omega) (by omega) (by omega) (by omega)) ?_
      walk_at "s"
      refine dII_i (by decide) ?_
      walk_at "s"
      refine dII_i (by decide) ?_
      walk_at "s"
      refine stir _ ?_ ?_
      · have := Int.mul_nonneg f0 (show (0 : Int) ≤ 1000000000000000000000000000000000000000000000000000000000000 by decide)
        omega
      · have h1 : (f + 1) * 1000000000000000000000000000000000000000000000000000000000000 ≤ 2 ^ (200 * j) * 2 ^ 200 := Int.mul_le_mul (by omega) (by decide) (by decide) (Int.le_of_lt (pow_pos2 _))
        rw [grow] at h1
        omega
    | false =>
      refine ifF rfl ?_
      walk_at "s"
      refine dMulA_i (cmx (by omega) (by omega) (by omega) (by omega)) ?_
      walk_at "s"
      refine dII_i (by decide) ?_
      walk_at "s"
      refine dII_i (by decide) ?_
      walk_at "s"
      exact stir f f0 (by omega)
theorem ix3a {a b d : Int} : atI [D.int a, D.int b, D.int d] 0 = some (.int a) := rfl
theorem ix3b {a b d : Int} : atI [D.int a, D.int b, D.int d] 1 = some (.int b) := rfl
theorem ix3c {a b d : Int} : atI [D.int a, D.int b, D.int d] 2 = some (.int d) := rfl
theorem sem_law_draw (c : Cl) : ∀ ds st R xq, sp_law_draw c ds st R xq → w_law_draw c (EndsOf R xq) (startD ["_law_spring_here", "_law_many", "_law_stir", "_law_found"] ds) st := by
  rintro ds st R xq ⟨b, m, n, rfl, ⟨cell, e, f, s, q, rfl, f0, f1, s0, s1, q0, q1⟩, m0, m1, hn, k⟩
  show w_law_draw c ⟨_, _, _, _, _⟩ [some (.hdl b), some (.int m), none, none] st
  unfold w_law_draw
  walk_at "s"
  refine dIx_h e ix3a ?_
  walk_at "s"
  by_cases hf : 0 < f
  · refine ifT (by simpa using hf) ?_
    walk_at "s"
    refine dIx_h e ix3a ?_
    walk_at "s"
    refine dII_i m0 ?_
    walk_at "s"
    refine dIx_h e ix3a ?_
    walk_at "s"
    refine dII_i (cdw m0 (by omega)) ?_
    walk_at "s"
    refine dSet_l e (m := 0) rfl ?_
    walk_at "s"
    refine k _ _ (Int.emod_nonneg _ (by omega)) (Int.emod_lt_of_pos _ m0) ⟨Fx.refl.set (.inl (by simp)), _, setSame e, f / m, s, q, rfl, Int.ediv_nonneg f0 (Int.le_of_lt m0), ?_, s0, s1, q0, by omega⟩ (by simp)
    exact Int.lt_of_le_of_lt (Int.ediv_le_self m f0) f1
  · have hf0 : f = 0 := by omega
    subst hf0
    refine ifF rfl ?_
    walk_at "s"
    refine dIx_h e ix3c ?_
    walk_at "s"
    refine dSet_l e (m := 2) rfl ?_
    have e1 : (st.set b (.lst ([D.int 0, D.int s, D.int q].set 2 (.int (q + 1)))))[b]? = some (.lst [.int 0, .int s, .int (q + 1)]) := setSame e
    generalize hs1 : st.set b (.lst ([D.int 0, D.int s, D.int q].set 2 (.int (q + 1)))) = st1
    rw [hs1] at e1
    have f1' : Fx [b] st st1 := by rw [← hs1]; exact Fx.refl.set (.inl (by simp))
    have l1 : st1.length = st.length := by rw [← hs1]; simp
    walk_at "s"
    refine dIx_h e1 ix3b ?_
    walk_at "s"
    refine dIx_h e1 ix3b ?_
    walk_at "s"
    have ss : 0 ≤ s * s ∧ s * s < 2 ^ 130 := by
      constructor
      · exact Int.mul_nonneg s0 s0
      · have : s * s ≤ (2 ^ 61) * (2 ^ 61) := Int.mul_le_mul (by omega) (by omega) s0 (by omega)
        omega
    refine dMulA_i (cmx (by omega) (by omega) (by omega) (by omega)) ?_
    walk_at "s"
    refine dII_i (by decide) ?_
    walk_at "s"
    refine dIx_h e1 ix3c ?_
    walk_at "s"
    refine dMulA_i (cmx (by omega) (by omega) (by omega) (by omega)) ?_
    walk_at "s"
    refine dIx_h e1 ix3b ?_
    walk_at "s"
    have hq : 0 ≤ 7919 * (q + 1) ∧ 7919 * (q + 1) < 2 ^ 80 := by omega
    generalize 7919 * (q + 1) = y at hq
    refine dMulA_i (cmx (by omega) (by omega) (by omega) (by omega)) ?_
    walk_at "s"
    refine dII_i (by decide) ?_
    walk_at "s"
    refine dSet_l e1 (m := 1) rfl ?_
    generalize hs' : (s * s % 2305843009213693951 + y * s + 104729) % 2305843009213693951 = s'
    have hs0 : 0 ≤ s' ∧ s' < 2305843009213693951 := by subst hs'; exact ⟨Int.emod_nonneg _ (by omega), Int.emod_lt_of_pos _ (by omega)⟩
    have e2 : (st1.set b (.lst ([D.int 0, D.int s, D.int (q + 1)].set 1 (.int s'))))[b]? = some (.lst [.int 0, .int s', .int (q + 1)]) := setSame e1
    generalize hs2 : st1.set b (.lst ([D.int 0, D.int s, D.int (q + 1)].set 1 (.int s'))) = st2
    rw [hs2] at e2
    walk_at "s"
    refine dIx_h e2 ix3b ?_
    walk_at "s"
    refine dII_i (cdw (by decide) (by decide)) ?_
    walk_at "s"
    refine dII_i m0 ?_
    refine k _ _ (Int.emod_nonneg _ (by omega)) (Int.emod_lt_of_pos _ m0) ⟨?_, _, e2, 0, s', q + 1, rfl, by omega, f1, hs0.1, hs0.2, by omega, by omega⟩ (by rw [← hs2]; simp [l1])
    rw [← hs2]; exact f1'.set (.inl (by simp))

/-! ### names drawn -/
def ownL : List Nat := [113, 114, 115, 116, 117, 118, 119, 120]
def badL : List Str := ["false", "not", "or", "same", "choose", "bor", "div", "shl", "read", "mul"]
/-- signs of a name whose own letter is o -/
structure NmS (o : Nat) (l : List Nat) : Prop where
  let_ : ∀ c ∈ l, c ∈ letterL
  own : o ∈ l
  only : ∀ c ∈ l, c ∈ ownL → c = o
theorem rule_own : ∀ p ∈ wordRules, p.1 ∈ badL ∨ (p.1.cps.toList.filter fun c => decide (c ∈ ownL)).length ≠ 1 := by decide +kernel
theorem two_own : (("name" : Str).cps.toList.filter fun c => decide (c ∈ ownL)).length ≠ 1 ∧ (("array" : Str).cps.toList.filter fun c => decide (c ∈ ownL)).length ≠ 1 := by decide +kernel
theorem bad_more : ∀ x ∈ badL, ∀ o ∈ ownL, isNm (x ++ (⟨#[o]⟩ : Str)) = true := by decide +kernel
theorem own_at : ∀ i, i < 8 → ∃ o, (("qrstuvwx" : Str)).cps.toList[i]? = some o ∧ ownL[i]? = some o ∧ o ∈ ownL ∧ o ∈ letterL := by
  intro i hi
  have h : ∀ i, i < 8 → ((("qrstuvwx" : Str)).cps.toList[i]? = ownL[i]? ∧ ownL.all (fun o => decide (o ∈ letterL)) = true) := by decide +kernel
  obtain ⟨h1, h2⟩ := h i hi
  have h3 : i < ownL.length := hi
  refine ⟨ownL[i], by rw [h1]; simp [h3], by simp [h3], List.getElem_mem h3, ?_⟩
  rw [List.all_eq_true] at h2
  simpa using h2 _ (List.getElem_mem h3)
theorem base_sign : ∀ i, i < 18 → ∃ o, (("abcdefghijklmnopyz" : Str)).cps.toList[i]? = some o ∧ o ∈ letterL ∧ o ∉ ownL := by
  intro i hi
  have h : ((("abcdefghijklmnopyz" : Str)).cps.toList.length = 18 ∧ (("abcdefghijklmnopyz" : Str)).cps.toList.all (fun o => decide (o ∈ letterL ∧ o ∉ ownL)) = true) := by decide +kernel
  obtain ⟨h1, h2⟩ := h
  have h3 : i < (("abcdefghijklmnopyz" : Str)).cps.toList.length := by omega
  rw [List.all_eq_true] at h2
  have := h2 _ (List.getElem_mem h3)
  simp only [decide_eq_true_eq] at this
  exact ⟨_, by simp [h3], this.1, this.2⟩
theorem ltrs_all {l : List Nat} (h : ∀ c ∈ l, c ∈ letterL) : l.all (fun c => decide (c ∈ letterL)) = true := by
  rw [List.all_eq_true]; intro c hc; simpa using h c hc
/-- a name, if not one of the bad ones -/
theorem nm_ok {x : Str} {o : Nat} (hl : x.length ≤ 8) (h : NmS o x.cps.toList) (h1 : (x.cps.toList.filter fun c => decide (c ∈ ownL)).length = 1) (hb : x ∉ badL) : isNm x = true := by
  have pos : 1 ≤ x.length := by
    rw [← len_cps]
    exact List.length_pos_of_mem h.own
  have hr : (ruleOf x).isSome = false := by
    cases e : ruleOf x with
    | none => rfl
    | some g =>
      exfalso
      have := look_mem e
      rcases rule_own _ this with q | q
      · exact hb q
      · exact q h1
  have h2 : x ≠ "name" := by rintro rfl; exact two_own.1 h1
  have h3 : x ≠ "array" := by rintro rfl; exact two_own.2 h1
  unfold isNm
  rw [decide_eq_true pos, decide_eq_true hl, hr, decide_eq_false h2, decide_eq_false h3, ltrs_all h.let_]
  rfl
theorem cps_app (x y : Str) : (x ++ y).cps.toList = x.cps.toList ++ y.cps.toList := by
  show (x.cps ++ y.cps).toList = _
  simp
theorem len_app (x y : Str) : (x ++ y).length = x.length + y.length := by
  rw [← len_cps, ← len_cps, ← len_cps, cps_app, List.length_append]
theorem str_ext {x y : Str} (h : x.cps.toList = y.cps.toList) : x = y := by
  cases x; cases y; congr 1; exact Array.toList_inj.mp h
theorem join_signs : ∀ ls : List Nat, (Txt.join ("" : Str) (ls.map fun c => (⟨#[c]⟩ : Str))).cps.toList = ls := by
  intro ls
  rw [TL.join_eq]
  have e : (("" : Str)).cps.toList = [] := by decide +kernel
  induction ls with
  | nil => rfl
  | cons a ls ih =>
    cases ls with
    | nil => rfl
    | cons b ls =>
      simp only [List.map_cons] at ih ⊢
      show ((⟨#[a]⟩ : Str) ++ ("" : Str) ++ Str.join "" ((⟨#[b]⟩ : Str) :: ls.map fun c => (⟨#[c]⟩ : Str))).cps.toList = _
      rw [cps_app, cps_app, ih, e]
      rfl
theorem cutT_to {z : Str} {i : Int} (h0 : 0 ≤ i) (h : i ≤ z.length) : (cutT z none (some i)).cps.toList = z.cps.toList.take i.toNat := by
  obtain ⟨j, rfl⟩ := Int.eq_ofNat_of_zero_le h0
  have hj : j ≤ z.length := by omega
  unfold cutT cutS
  rw [HT.sIx_none, HT.sIx_nat, Nat.min_eq_left hj]
  simp
theorem cutT_from {z : Str} {i : Int} (h0 : 0 ≤ i) (h : i ≤ z.length) : (cutT z (some i) none).cps.toList = z.cps.toList.drop i.toNat := by
  obtain ⟨j, rfl⟩ := Int.eq_ofNat_of_zero_le h0
  have hj : j ≤ z.length := by omega
  unfold cutT cutS
  rw [HT.sIx_none, HT.sIx_nat, Nat.min_eq_left hj]
  have e := len_cps z
  rw [List.take_of_length_le (by rw [List.length_drop]; omega)]
  simp
theorem allS_map : ∀ xs : List Str, allS (xs.map D.str) = some xs
  | [] => rfl
  | x :: xs => by simp only [List.map_cons, allS, allS_map xs]; rfl
theorem dIx_str {st : Sto} {R : DQ} {z : Str} {i : Int} {c : Nat} (hl : z.length ≤ sizeLine) (e : atI z.cps.toList i = some c) (h : R (.str ⟨#[c]⟩) st) : dIx (.str z) (.int i) st R := ⟨hl, c, e, h⟩
theorem atI_natG {α : Type} {xs : List α} {i : Int} {d : α} (h0 : 0 ≤ i) (e : xs[i.toNat]? = some d) : atI xs i = some d := by
  obtain ⟨j, rfl⟩ := Int.eq_ofNat_of_zero_le h0
  have e' : xs[j]? = some d := by simpa using e
  have h := ltOf e'
  have h1 : (j : Int) < xs.length := by omega
  simp [atI, ixN, h0, h1, e']
/-- what is made of the letters drawn and one's own -/
theorem nm_made {base x : Str} {o : Nat} {i : Int} (hb : ∀ c ∈ base.cps.toList, c ∈ letterL ∧ c ∉ ownL) (ho : o ∈ ownL) (hol : o ∈ letterL) (hl : base.length ≤ 7) (hx : x.cps.toList = base.cps.toList.take i.toNat ++ [o] ++ base.cps.toList.drop i.toNat) : x.length ≤ 8 ∧ NmS o x.cps.toList ∧ (x.cps.toList.filter fun c => decide (c ∈ ownL)).length = 1 := by
  have hin : ∀ c ∈ x.cps.toList, c = o ∨ c ∈ base.cps.toList := by
    intro c hc
    rw [hx] at hc
    simp only [List.mem_append, List.mem_singleton] at hc
    rcases hc with (hc | hc) | hc
    · exact .inr (List.mem_of_mem_take hc)
    · exact .inl hc
    · exact .inr (List.mem_of_mem_drop hc)
  have hlen : x.length = base.length + 1 := by
    rw [← len_cps, hx, ← len_cps base]
    simp only [List.length_append, List.length_take, List.length_drop, List.length_cons, List.length_nil]
    omega
  have nof : ∀ l : List Nat, (∀ c ∈ l, c ∉ ownL) → l.filter (fun c => decide (c ∈ ownL)) = [] := by
    intro l h
    rw [List.filter_eq_nil_iff]
    intro c hc
    simpa using h c hc
  refine ⟨by omega, ⟨?_, ?_, ?_⟩, ?_⟩
  · intro c hc
    rcases hin c hc with rfl | q
    · exact hol
    · exact (hb c q).1
  · rw [hx]; simp
  · intro c hc hco
    rcases hin c hc with rfl | q
    · rfl
    · exact absurd hco (hb c q).2
  · rw [hx, List.filter_append, List.filter_append, nof _ fun c hc => (hb c (List.mem_of_mem_take hc)).2, nof _ fun c hc => (hb c (List.mem_of_mem_drop hc)).2]
    simp [ho]
theorem dIN_strs {x : Str} {ys : List Str} {st : Sto} {R : DQ} (h : R (.bl (decide (x ∈ ys))) st) : dIN false (.str x) (.lst (ys.map D.str)) st R := by
  have e : (ys.map D.str).any (fun y => eqFD y (.str x)) = decide (x ∈ ys) := by
    rw [List.any_map]
    have e2 : ∀ y : Str, eqFD (.str y) (.str x) = decide (y = x) := fun _ => rfl
    clear h
    induction ys with
    | nil => rfl
    | cons y ys ih =>
      rw [List.any_cons, ih]
      simp only [Function.comp, e2, List.mem_cons]
      by_cases q : y = x
      · simp [q]
      · have : ¬ x = y := fun z => q z.symm
        simp [q, this]
  refine ⟨rfl, by rw [List.all_map]; simp [Function.comp_def], ?_⟩
  rw [e]; exact h

/-! ### the names of a law -/
theorem rngD_cons (i : Int) (n : Nat) : rngD i (n + 1) = .int i :: rngD (i + 1) n := by
  unfold rngD
  rw [List.range_succ_eq_map]
  simp
  intro a _
  omega
theorem SX.refl {b n : Nat} {x : Sto} (h : Spr x b n) : SX b x n x := ⟨.refl, h⟩
theorem SX.app {b n : Nat} {x y : Sto} {c : Cell} (h : SX b x n y) : SX b x n (y ++ [c]) := ⟨h.fx.app, h.spr.fx (F := []) Fx.refl.app (by simp)⟩
theorem SX.own {b n k : Nat} {x y : Sto} {c : Cell} (h : SX b x n y) (hk : x.length ≤ k) (hb : b < x.length) : SX b x n (y.set k c) :=
  ⟨h.fx.set (.inr hk), h.spr.fx (F := [k]) (Fx.refl.set (.inl (by simp))) (by simp; omega)⟩
theorem SX.len {b n : Nat} {x y : Sto} (h : SX b x n y) : x.length ≤ y.length := h.fx.len
theorem SX.cell {b n j : Nat} {x y : Sto} {c : Cell} (h : SX b x n y) (e : x[j]? = some c) (hj : j ≠ b) : y[j]? = some c := h.fx.at e (by simp [hj])
/-- the first k names -/
structure NmK (xs : List Str) : Prop where
  ok : ∀ (i : Nat) (x : Str), xs[i]? = some x → isNm x = true ∧ ∃ o, ownL[i]? = some o ∧ NmS o x.cps.toList
theorem NmK.nodup {xs : List Str} (h : NmK xs) : NmsOk xs := by
  refine ⟨?_, ?_⟩
  · intro x hx
    obtain ⟨i, hi, e⟩ := List.mem_iff_getElem.mp hx
    exact (h.ok i x (by rw [← e]; simp [hi])).1
  · rw [List.nodup_iff_pairwise_ne, List.pairwise_iff_getElem]
    intro i j hi hj hij e
    obtain ⟨_, o, o1, s1⟩ := h.ok i xs[i] (by simp [hi])
    obtain ⟨_, p, p1, s2⟩ := h.ok j xs[j] (by simp [hj])
    rw [e] at s1
    have h1 : o = p := s2.only o s1.own (List.mem_of_getElem? o1)
    subst h1
    have hn : ownL.Nodup := by decide
    have h2 := (List.getElem?_eq_some_iff.mp o1)
    have h3 := (List.getElem?_eq_some_iff.mp p1)
    rw [List.nodup_iff_pairwise_ne, List.pairwise_iff_getElem] at hn
    obtain ⟨q1, q2⟩ := h2
    obtain ⟨q3, q4⟩ := h3
    exact hn i j q1 q3 hij (by rw [q2, q4])
theorem NmK.snoc {xs : List Str} {x : Str} (h : NmK xs) (hx : isNm x = true) (ho : ∃ o, ownL[xs.length]? = some o ∧ NmS o x.cps.toList) : NmK (xs ++ [x]) := by
  refine ⟨?_⟩
  intro i y e
  by_cases hi : i < xs.length
  · rw [List.getElem?_append_left hi] at e
    exact h.ok i y e
  · have := ltOf e
    simp at this
    have : i = xs.length := by omega
    subst this
    simp at e; subst e
    exact ⟨hx, ho⟩
theorem long_of {r : Int} (h0 : 0 ≤ r) (h1 : r < 6) : ∃ v : Nat, atI [D.int 0, D.int 0, D.int 1, D.int 7, D.int 3, D.int 2] r = some (.int (v : Int)) ∧ v ≤ 7 := by
  have : r = 0 ∨ r = 1 ∨ r = 2 ∨ r = 3 ∨ r = 4 ∨ r = 5 := by omega
  rcases this with rfl | rfl | rfl | rfl | rfl | rfl
  · exact ⟨0, rfl, by decide⟩
  · exact ⟨0, rfl, by decide⟩
  · exact ⟨1, rfl, by decide⟩
  · exact ⟨7, rfl, by decide⟩
  · exact ⟨3, rfl, by decide⟩
  · exact ⟨2, rfl, by decide⟩
theorem sem_law_words (c : Cl) : ∀ ds st R xq, sp_law_words c ds st R xq → w_law_words c (EndsOf R xq) (startD ["_law_spring_here", "_law_size", "_law_found", "_law_k", "_law_long", "_law_base", "_law_at", "_law_own", "_law_name"] ds) st := by
  rintro ds st R xq ⟨b, n, m, rfl, hs, hm, hn, k⟩
  show w_law_words c ⟨_, _, _, _, _⟩ [some (.hdl b), some (.int (m : Int)), none, none, none, none, none, none, none] st
  unfold w_law_words
  have hb := hs.lt
  walk_at "s"
  refine ⟨by omega, by omega, ?_⟩
  refine forD_ind (fun zs ρ st' => ∃ (xs : List Str) (left : Nat) (z3 z4 z5 z6 z7 z8 : Option D), zs = rngD (xs.length : Int) left ∧ xs.length + left = m ∧ NmK xs ∧ SX b st (n + 10 * xs.length) st' ∧ st'[st.length]? = some (.lst (xs.map D.str)) ∧ ρ = [some (.hdl b), some (.int (m : Int)), some (.hdl st.length), z3, z4, z5, z6, z7, z8]) ?_ ?_ _ _ _ ⟨[], m, none, none, none, none, none, none, rfl, by simp, ⟨by simp⟩, (SX.refl hs).app, appN, rfl⟩
  · rintro ρ st' ⟨xs, left, z3, z4, z5, z6, z7, z8, q1, q2, hk, sx, hc, rfl⟩
    refine ⟨trivial, ?_⟩
    walk_at "s"
    have hl : left = 0 := by
      cases left with
      | zero => rfl
      | succ l => rw [rngD_cons] at q1; cases q1
    subst hl
    exact k xs _ st' (by omega) hk.nodup (sx.mono (by omega)) (Nat.le_refl _) hc
  · rintro x zs ρ st' K ⟨xs, left, z3, z4, z5, z6, z7, z8, q1, q2, hk, sx, hc, rfl⟩ hK
    cases left with
    | zero => cases q1
    | succ left =>
    rw [rngD_cons] at q1
    cases q1
    refine ⟨trivial, ?_⟩
    have hx8 : xs.length < 8 := by omega
    obtain ⟨o, w1, w2, w3, w4⟩ := own_at xs.length hx8
    walk_at "s"
    refine ⟨b, 6, n + 10 * xs.length, rfl, sx.spr, by omega, by omega, by omega, ?_⟩
    intro r st1 r0 r1 s1 l1
    walk_at "s"
    obtain ⟨long, hat, hlong⟩ := long_of r0 r1
    refine dIx_l hat ?_
    walk_at "s"
    refine ⟨by omega, by omega, ?_⟩
    have sx1 := sx.trans s1
    refine lcD_ind (fun ys acc st2 => ∃ (ls : List Nat) (lf : Nat), ys = rngD (ls.length : Int) lf ∧ ls.length + lf = long ∧ (∀ c ∈ ls, c ∈ letterL ∧ c ∉ ownL) ∧ acc = (ls.map fun c => (⟨#[c]⟩ : Str)).map D.str ∧ SX b st (n + 10 * xs.length + 1 + ls.length) st2 ∧ st2[st.length]? = some (.lst (xs.map D.str))) ?_ ?_ _ _ _ ⟨[], long, by simp, by simp, by simp, rfl, sx1, s1.cell hc (by omega)⟩
    · rintro acc st2 ⟨ls, lf, p1, p2, p3, rfl, s2, hc2⟩
      have hl : lf = 0 := by
        cases lf with
        | zero => rfl
        | succ l => rw [rngD_cons] at p1; cases p1
      subst hl
      refine ⟨trivial, ?_⟩
      have hsum : ((ls.map fun c => (⟨#[c]⟩ : Str)).map (·.length)).sum = ls.length := by
        rw [List.map_map]
        have : ∀ ls : List Nat, (ls.map ((·.length) ∘ fun c => (⟨#[c]⟩ : Str))).sum = ls.length := by
          intro ls
          induction ls with
          | nil => rfl
          | cons a ls ih => rw [List.map_cons, List.sum_cons, ih]; show 1 + _ = _; simp; omega
        exact this ls
      refine ⟨_, allS_map _, ?_, ?_⟩
      · rw [hsum, List.length_map]
        have : (Str.ofString "").length = 0 := rfl
        rw [this]; omega
      generalize hbase : Txt.join ("" : Str) (ls.map fun c => (⟨#[c]⟩ : Str)) = base
      have hbl : base.cps.toList = ls := by rw [← hbase]; exact join_signs ls
      have hblen : base.length = ls.length := by rw [← len_cps, hbl]
      walk_at "s"
      refine ⟨b, _, _, rfl, s2.spr, by omega, by omega, by omega, ?_⟩
      intro i st3 i0 i1 s3 l3
      have sx3 := s2.trans s3
      walk_at "s"
      refine dIx_str (by decide) (atI_natG (by omega) (by simpa using w1)) ?_
      walk_at "s"
      refine dSlA_s (by rw [hblen]; simp only [sizeLine]; omega) ?_
      walk_at "s"
      have hi : i ≤ base.length := by omega
      have e1 := cutT_to i0 hi
      have e2 := cutT_from i0 hi
      refine dAddA_s (by rw [← len_cps, e1, List.length_take]; show _ + 1 ≤ _; simp only [sizeLine]; rw [hbl]; omega) ?_
      walk_at "s"
      refine dSlA_s (by rw [hblen]; simp only [sizeLine]; omega) ?_
      have hx0 : (cutT base none (some i) ++ (⟨#[o]⟩ : Str) ++ cutT base (some i) none).cps.toList = base.cps.toList.take i.toNat ++ [o] ++ base.cps.toList.drop i.toNat := by
        rw [cps_app, cps_app, e1, e2]
      obtain ⟨m1, m2, m3⟩ := nm_made (x := cutT base none (some i) ++ (⟨#[o]⟩ : Str) ++ cutT base (some i) none) (by rw [hbl]; exact p3) w3 w4 (by omega) hx0
      refine dAddA_s (by rw [← len_app]; exact Nat.le_trans m1 (by decide)) ?_
      generalize cutT base none (some i) ++ (⟨#[o]⟩ : Str) ++ cutT base (some i) none = nm at m1 m2 m3
      walk_at "s"
      refine dIN_strs (ys := badL) ?_
      walk_at "s"
      have hc3 : st3[st.length]? = some (.lst (xs.map D.str)) := s3.cell hc2 (by omega)
      have fin : ∀ (nm' : Str), isNm nm' = true → NmS o nm'.cps.toList → K [some (.hdl b), some (.int (m : Int)), some (.hdl st.length), some (.int (xs.length : Int)), some (.int (long : Int)), some (.str base), some (.int i), some (.str ⟨#[o]⟩), some (.str nm')] (st3.set st.length (.lst (xs.map D.str ++ [.str nm']))) := by
        intro nm' h1 h2
        refine hK _ _ ⟨xs ++ [nm'], left, _, _, _, _, _, _, by simp, by simp; omega, hk.snoc h1 ⟨o, w2, h2⟩, ?_, ?_, rfl⟩
        · refine (sx3.mono ?_).own (Nat.le_refl _) hb
          simp; omega
        · rw [setSame hc3]; simp
      by_cases hbad : nm ∈ badL
      · refine ifT (by simpa using hbad) ?_
        walk_at "s"
        refine dAddA_s (by show _ + 1 ≤ _; exact Nat.le_trans (Nat.add_le_add_right m1 1) (by decide)) ?_
        walk_at "s"
        refine ⟨isLD_h hc3, ?_⟩
        walk_at "s"
        refine dApp_h hc3 (by simp only [List.length_map, sizeLine]; omega) ?_
        refine fin _ (bad_more nm hbad o w3) ⟨?_, ?_, ?_⟩
        · intro c hc; rw [cps_app] at hc
          rcases List.mem_append.mp hc with hc | hc
          · exact m2.let_ c hc
          · have : c = o := by simpa using hc
            subst this; exact w4
        · rw [cps_app]; simp
        · intro c hc hco; rw [cps_app] at hc
          rcases List.mem_append.mp hc with hc | hc
          · exact m2.only c hc hco
          · simpa using hc
      · refine ifF (by simpa using hbad) ?_
        walk_at "s"
        refine ⟨isLD_h hc3, ?_⟩
        walk_at "s"
        refine dApp_h hc3 (by simp only [List.length_map, sizeLine]; omega) ?_
        exact fin nm (nm_ok m1 m2 m3 hbad) m2
    · rintro y ys acc st2 K' ⟨ls, lf, p1, p2, p3, rfl, s2, hc2⟩ hK'
      cases lf with
      | zero => cases p1
      | succ lf =>
      rw [rngD_cons] at p1
      cases p1
      refine ⟨trivial, ?_⟩
      walk_at "s"
      refine ⟨b, 18, _, rfl, s2.spr, by omega, by omega, by omega, ?_⟩
      intro r2 st3 a0 a1 s3 l3
      obtain ⟨o2, v1, v2, v3⟩ := base_sign r2.toNat (by omega)
      walk_at "s"
      refine dIx_str (by decide) (atI_natG a0 v1) ?_
      refine ⟨by simp only [List.length_map, sizeLine]; omega, hK' _ _ ⟨ls ++ [o2], lf, by simp, by simp; omega, ?_, by simp, (s2.trans s3).mono (by simp; omega), s3.cell hc2 (by omega)⟩⟩
      intro c hc
      rcases List.mem_append.mp hc with hc | hc
      · exact p3 c hc
      · have : c = o2 := by simpa using hc
        subst this; exact ⟨v2, v3⟩

/-! ### worths there are -/
theorem nd_congr {given : Str → Option Wo} {ts : Ts} {ws vs : List Wo} {n : Nd} (h : ∀ p ∈ ndParts n, woAt ws p = woAt vs p) : ndMean given ts ws n = ndMean given ts vs n := by
  cases n with
  | nm x k => rfl
  | ap w ps ms =>
    show meanOf _ _ _ _ = meanOf _ _ _ _
    congr 1
    exact List.map_congr_left h
theorem means_ex (given : Str → Option Wo) {ts : Ts} (ho : BankOk ts) : ∃ ws, IsMeans given ts ws := by
  have key : ∀ n, n ≤ ts.length → ∃ ws : List Wo, ws.length = n ∧ ∀ i t, i < n → ts[i]? = some t → woAt ws i = ndMean given ts ws t.1 := by
    intro n
    induction n with
    | zero => intro _; exact ⟨[], rfl, fun i t h => by omega⟩
    | succ n ih =>
      intro hn
      obtain ⟨ws, hl, hw⟩ := ih (by omega)
      have hlt : n < ts.length := by omega
      refine ⟨ws ++ [ndMean given ts ws ts[n].1], by simp [hl], ?_⟩
      have old : ∀ i, i < n → woAt (ws ++ [ndMean given ts ws ts[n].1]) i = woAt ws i := by
        intro i hi
        unfold woAt
        rw [List.getD_eq_getElem?_getD, List.getD_eq_getElem?_getD, List.getElem?_append_left (by omega)]
      intro i t hi e
      have hp : ∀ p ∈ ndParts t.1, p < i := (ho.parts (n := t.1) (i := i) (by simp [ndAt, e])).2
      by_cases q : i < n
      · rw [old i q, hw i t q e]
        exact nd_congr fun p hp' => (old p (by have := hp p hp'; omega)).symm
      · have : i = n := by omega
        subst this
        have : t = ts[i] := by simpa [hlt] using e.symm
        subst this
        have e2 : woAt (ws ++ [ndMean given ts ws ts[i].1]) i = ndMean given ts ws ts[i].1 := by
          unfold woAt
          rw [List.getD_eq_getElem?_getD, List.getElem?_append_right (by omega)]
          simp [hl]
        rw [e2]
        exact nd_congr fun p hp' => (old p (hp p hp')).symm
  obtain ⟨ws, hl, hw⟩ := key ts.length (Nat.le_refl _)
  exact ⟨ws, hl, fun i t e => hw i t (ltOf e) e⟩
theorem ltT_of {x y : Str} (h : ltT y x = false) (hne : x ≠ y) : ltT x y = true := by
  unfold ltT at h ⊢
  have h1 : ¬ y.cps.toList < x.cps.toList := of_decide_eq_false h
  have h2 : x.cps.toList ≤ y.cps.toList := List.not_lt.mp h1
  refine decide_eq_true ?_
  apply Classical.byContradiction
  intro h3
  have h4 : y.cps.toList ≤ x.cps.toList := List.not_lt.mp h3
  exact hne (str_ext (List.le_antisymm h2 h4))
theorem isNm_let {x : Str} (h : isNm x = true) : (∀ c ∈ x.cps.toList, c ∈ letterL) ∧ 1 ≤ x.length ∧ x.length ≤ 8 := by
  unfold isNm at h
  simp only [Bool.and_eq_true, decide_eq_true_eq] at h
  refine ⟨?_, h.1.1.1.1.1, h.1.1.1.1.2⟩
  intro c hc
  have := h.2
  rw [List.all_eq_true] at this
  simpa using this c hc
/-- a term put, general -/
theorem bput_at {ts ts' : Ts} {n : Nd} {k : Kd} {i : Nat} (e : bput ts n k = (i, ts')) : (∀ j m, ndAt ts j = some m → ndAt ts' j = some m) ∧ ndAt ts' i = some n ∧ ts'.length ≤ ts.length + 1 := by
  cases q : nIx n ts with
  | some j => rw [bput_some q] at e; cases e; exact ⟨fun _ _ h => h, nIx_some q, by omega⟩
  | none =>
    rw [bput_none q] at e; cases e
    exact ⟨fun j m h => by rw [ndAt_app (ndAt_lt h)]; exact h, ndAt_last, by simp⟩

/-! ### what is told of a word of two numbers -/
theorem lookup_of {mv : List (Str × Wo)} {x : Str} {wo : Wo} (hn : (mv.map (·.1)).Nodup) (h : (x, wo) ∈ mv) : mv.lookup x = some wo := by
  induction mv with
  | nil => simp at h
  | cons p mv ih =>
    simp only [List.map_cons, List.nodup_cons] at hn
    simp only [List.lookup]
    rcases List.mem_cons.mp h with rfl | h
    · simp
    · have : x ≠ p.1 := fun e => hn.1 (by rw [← e]; exact List.mem_map.mpr ⟨_, h, rfl⟩)
      have : (x == p.1) = false := by simp [this]
      rw [this]
      exact ih hn.2 h
def prsI (l : List (Str × Int)) : List (Str × D) := l.map fun p => (p.1, .int p.2)
theorem prsI_perm {qs : List (Str × D)} {l : List (Str × Int)} (h : qs.Perm (prsI l)) : ∃ l', qs = prsI l' ∧ ∀ p, p ∈ l' ↔ p ∈ l := by
  have shape : ∀ q ∈ qs, ∃ x b, q = (x, .int b) := by
    intro q hq
    obtain ⟨p, _, rfl⟩ := List.mem_map.mp (h.mem_iff.mp hq)
    exact ⟨_, _, rfl⟩
  let bo : D → Int := fun d => match d with | .int b => b | _ => 0
  have e : ∀ qs : List (Str × D), (∀ q ∈ qs, ∃ x b, q = (x, D.int b)) → qs = prsI (qs.map fun q => (q.1, bo q.2)) := by
    intro qs
    induction qs with
    | nil => intro _; rfl
    | cons q qs ih =>
      intro hs
      obtain ⟨x, b, rfl⟩ := hs q (by simp)
      have := ih fun r hr => hs r (by simp [hr])
      unfold prsI at this ⊢
      rw [List.map_cons, List.map_cons, ← this]
  refine ⟨_, e qs shape, ?_⟩
  intro p
  constructor
  · intro hp
    obtain ⟨q, hq, rfl⟩ := List.mem_map.mp hp
    obtain ⟨p, hp', rfl⟩ := List.mem_map.mp (h.mem_iff.mp hq)
    exact hp'
  · intro hp
    have : ((p.1, D.int p.2) : Str × D) ∈ qs := h.mem_iff.mpr (List.mem_map.mpr ⟨p, hp, rfl⟩)
    exact List.mem_map.mpr ⟨_, this, rfl⟩
theorem mdl_prsI : ∀ l : List (Str × Int), MdlD ((prsI l).map pairD) (l.map fun p => (p.1, Wo.n p.2))
  | [] => trivial
  | p :: l => ⟨⟨_, rfl, .inl rfl⟩, mdl_prsI l⟩
theorem prsI_fst (l : List (Str × Int)) : (prsI l).map (·.1) = l.map (·.1) := by simp [prsI, List.map_map, Function.comp_def]
theorem asc_prsI {qs : List (Str × D)} {lp fl : List (Str × Int)} (hq : qs = prsI lp) (hp : qs.Perm (prsI fl)) (hs : qs.Pairwise fun p q => ltT q.1 p.1 = false) (hn : (fl.map (·.1)).Nodup) : (lp.map fun p => (p.1, Wo.n p.2)).Pairwise fun p q => ltT p.1 q.1 = true := by
  have h1 : (qs.map (·.1)).Nodup := by
    have := (hp.map (·.1)).nodup_iff.mpr (by rw [prsI_fst]; exact hn)
    exact this
  rw [List.nodup_iff_pairwise_ne, List.pairwise_map] at h1
  have h2 := (hs.and h1).imp (S := fun p q : Str × D => ltT p.1 q.1 = true) fun {a b} q => ltT_of q.1 q.2
  rw [hq] at h2
  unfold prsI at h2
  rw [List.pairwise_map] at h2 ⊢
  exact h2
theorem pair_kind {w : Str} {p : Nat → Int → Int → Wo} (h : wordPairs.lookup w = some p) (n : Nat) : ∃ kd, kindOf w [.word n, .word n] (dIs []) = some kd := by
  rcases (pair_facts h).2 with q | q
  · rw [kind_rule q]; exact ⟨.word n, by simp [kWords]⟩
  · rw [kind_rule q]; exact ⟨.truth, by simp [kLess, kWords]⟩
theorem num_kind {ts : Ts} {n : Nat} {v : Int} (n1 : 1 ≤ n) (n2 : n ≤ 8) (h0 : 0 ≤ v) (h1 : v < 2 ^ n) : kindOf "number" ((([] : List Nat)).map (kindAt ts)) (dIs [(n : Int), v]) = some (.word n) := by
  rw [kind_rule (g := kMarks) rfl]
  show (if isW (.int (n : Int)) 1 8 = true ∧ isW (.int v) 0 (2 ^ (n : Int).toNat - 1) = true then some (Kd.word (n : Int).toNat) else none) = _
  rw [Int.toNat_natCast, if_pos ⟨isW_int.mpr (by omega), isW_int.mpr (by omega)⟩]
theorem bank0 : BankOk ([] : Ts) := ⟨by simp, by simp, by simp, by simp [ndAt]⟩
theorem num_node {ts : Ts} (ho : BankOk ts) {i n : Nat} {v : Int} (n1 : 1 ≤ n) (n2 : n ≤ 8) (h0 : 0 ≤ v) (h1 : v < 2 ^ n) (e : ndAt ts i = some (.ap "number" [] [(n : Int), v])) : kindAt ts i = .word n ∧ ∀ (g : Str → Option Wo) (ws : List Wo), IsMeans g ts ws → woAt ws i = .n v := by
  have h2 := (ho.ap e).2
  rw [num_kind n1 n2 h0 h1] at h2
  refine ⟨by injection h2 with h2; exact h2.symm, fun g ws hw => ?_⟩
  have hi := ndAt_lt e
  have e2 : ts[i]? = some ts[i] := by simp [hi]
  have e3 : ts[i].1 = .ap "number" [] [(n : Int), v] := by simpa [ndAt, hi] using e
  have := hw.at_ i _ e2
  rw [e3] at this
  rw [this]
  show meanOf _ _ _ _ = _
  rw [mean_rule (f := mNumber) rfl]
  rfl
theorem nm_node {ts : Ts} (ho : BankOk ts) {i : Nat} {x : Str} {k : Kd} (e : ndAt ts i = some (.nm x k)) : kindAt ts i = k ∧ ∀ (mv : List (Str × Wo)) (ws : List Wo), IsMeans (fun x => mv.lookup x) ts ws → ∀ wo, mv.lookup x = some wo → woAt ws i = wo := by
  refine ⟨(ho.nm e).1, fun mv ws hw wo hl => ?_⟩
  have hi := ndAt_lt e
  have e2 : ts[i]? = some ts[i] := by simp [hi]
  have e3 : ts[i].1 = .nm x k := by simpa [ndAt, hi] using e
  have := hw.at_ i _ e2
  rw [e3] at this
  rw [this]
  show (mv.lookup x).getD _ = _
  rw [hl]; rfl
theorem Fx.far {F : List Nat} {a b d : Sto} (h : Fx [] a b) (h' : Fx F b d) (s : ∀ k ∈ F, a.length ≤ k) : Fx [] a d := h.trans h' fun k hk => .inr (s k hk)

/-! ### bits -/
theorem numL_app (l : List Int) (b : Int) : numL (l ++ [b]) = 2 * numL l + b := by simp [numL]
theorem numL_cons (b : Int) (l : List Int) : numL (b :: l) = b * 2 ^ l.length + numL l := by
  have key : ∀ (l : List Int) (a : Int), l.foldl (fun a b => 2 * a + b) a = a * 2 ^ l.length + l.foldl (fun a b => 2 * a + b) 0 := by
    intro l
    induction l with
    | nil => intro a; simp
    | cons c l ih =>
      intro a
      simp only [List.foldl_cons, List.length_cons]
      rw [ih (2 * a + c), ih (2 * 0 + c), Int.pow_succ]
      have : (2 * a + c) * 2 ^ l.length = a * (2 ^ l.length * 2) + (2 * 0 + c) * 2 ^ l.length := by
        rw [Int.add_mul]
        have h1 : 2 * a * 2 ^ l.length = a * (2 ^ l.length * 2) := by rw [Int.mul_comm 2 a, Int.mul_assoc, Int.mul_comm 2]
        have h2 : (2 * 0 + c) * 2 ^ l.length = c * 2 ^ l.length := by simp
        rw [h1, h2]
      rw [this]
      omega
  unfold numL
  rw [List.foldl_cons, key l (2 * 0 + b)]
  simp
theorem bitL_len (x : Int) : ∀ n, (bitL x n).length = n
  | 0 => rfl
  | n + 1 => by simp [bitL, bitL_len x n]
theorem bitL_bits (x : Int) : ∀ n, ∀ b ∈ bitL x n, b = 0 ∨ b = 1
  | 0, b, h => by simp [bitL] at h
  | n + 1, b, h => by
    simp only [bitL, List.mem_cons] at h
    rcases h with rfl | h
    · omega
    · exact bitL_bits x n b h
/-- the bits tell the number -/
theorem numL_bitL {x : Int} : ∀ n, numL (bitL x n) = x % 2 ^ n
  | 0 => by simp [bitL, numL, Int.emod_one]
  | n + 1 => by
    rw [bitL, numL_cons, bitL_len, numL_bitL n]
    have hp := pow_pos2 n
    have h1 : x = 2 ^ n * (x / 2 ^ n) + x % 2 ^ n := (Int.mul_ediv_add_emod x (2 ^ n)).symm
    have h2 := Int.mul_ediv_add_emod (x / 2 ^ n) 2
    have h3 : x % 2 ^ (n + 1) = (x / 2 ^ n % 2) * 2 ^ n + x % 2 ^ n := by
      have e : x = 2 ^ (n + 1) * (x / 2 ^ n / 2) + ((x / 2 ^ n % 2) * 2 ^ n + x % 2 ^ n) := by
        have : 2 ^ (n + 1) * (x / 2 ^ n / 2) = 2 ^ n * (2 * (x / 2 ^ n / 2)) := by rw [Int.pow_succ, Int.mul_assoc]
        rw [this, Int.mul_comm (x / 2 ^ n % 2)]
        have h4 : 2 ^ n * (x / 2 ^ n) = 2 ^ n * (2 * (x / 2 ^ n / 2)) + 2 ^ n * (x / 2 ^ n % 2) := by rw [← Int.mul_add, h2]
        omega
      have r0 := Int.emod_nonneg x (show (2 : Int) ^ n ≠ 0 by omega)
      have r1 := Int.emod_lt_of_pos x hp
      have hb : x / 2 ^ n % 2 = 0 ∨ x / 2 ^ n % 2 = 1 := by omega
      have hr : 0 ≤ (x / 2 ^ n % 2) * 2 ^ n + x % 2 ^ n ∧ (x / 2 ^ n % 2) * 2 ^ n + x % 2 ^ n < 2 ^ (n + 1) := by
        rw [Int.pow_succ]
        rcases hb with q | q <;> rw [q] <;> omega
      conv => lhs; rw [e]
      rw [Int.add_comm, Int.add_mul_emod_self_left]
      exact Int.emod_eq_of_lt hr.1 hr.2
    rw [h3]
/-- a part of the bits: from place h down to place l -/
theorem bitL_drop (x : Int) : ∀ (n k : Nat), k ≤ n → (bitL x n).drop (n - k) = bitL x k
  | 0, k, h => by
    have : k = 0 := by omega
    subst this; rfl
  | n + 1, k, h => by
    by_cases q : k = n + 1
    · subst q; simp
    · have e : n + 1 - k = (n - k) + 1 := by omega
      rw [e, bitL, List.drop_succ_cons]
      exact bitL_drop x n k (by omega)
theorem bitL_take (x : Int) (l : Nat) : ∀ (k : Nat), (bitL x (l + k)).take k = bitL (x / 2 ^ l) k
  | 0 => by simp [bitL]
  | k + 1 => by
    have e : l + (k + 1) = (l + k) + 1 := by omega
    rw [e, bitL, List.take_succ_cons, bitL_take x l k, bitL]
    congr 1
    rw [Int.pow_add, Int.ediv_ediv_of_nonneg (Int.le_of_lt (pow_pos2 l))]
theorem bitL_cut (x : Int) {n h l : Nat} (h1 : l ≤ h) (h2 : h < n) : numL (((bitL x n).drop (n - 1 - h)).take (h - l + 1)) = x / 2 ^ l % 2 ^ (h - l + 1) := by
  have e1 : n - 1 - h = n - (h + 1) := by omega
  rw [e1, bitL_drop x n (h + 1) (by omega)]
  have e2 : h + 1 = l + (h - l + 1) := by omega
  rw [e2, bitL_take x l (h - l + 1), numL_bitL]
theorem numL_flip : ∀ l : List Int, numL (l.map fun b => 1 - b) = 2 ^ l.length - 1 - numL l
  | [] => by simp [numL]
  | b :: l => by
    rw [List.map_cons, numL_cons, numL_cons, numL_flip l, List.length_map, List.length_cons, Int.pow_succ, Int.sub_mul, Int.one_mul]
    omega
theorem numL_app2 (a b : List Int) : numL (a ++ b) = numL a * 2 ^ b.length + numL b := by
  induction a with
  | nil => simp [numL]
  | cons c a ih =>
    rw [List.cons_append, numL_cons, numL_cons, ih, List.length_append, Int.pow_add, Int.add_mul, Int.mul_assoc]
    omega
/-- the bits of a join -/
theorem bitL_join {x y : Int} {n m : Nat} (y0 : 0 ≤ y) (y1 : y < 2 ^ m) : bitL (x * 2 ^ m + y) (n + m) = bitL x n ++ bitL y m := by
  induction n with
  | zero =>
    rw [Nat.zero_add]
    have key : ∀ k, k ≤ m → bitL (x * 2 ^ m + y) k = bitL y k := by
      intro k
      induction k with
      | zero => intro _; rfl
      | succ k ih =>
        intro hk
        rw [bitL, bitL, ih (by omega)]
        congr 1
        obtain ⟨d, hd⟩ : ∃ d, m = k + (d + 1) := ⟨m - k - 1, by omega⟩
        have e : x * 2 ^ m + y = y + 2 ^ k * (x * (2 ^ d * 2)) := by
          rw [hd, Int.pow_add, Int.pow_succ]
          have : x * (2 ^ k * (2 ^ d * 2)) = 2 ^ k * (x * (2 ^ d * 2)) := by rw [← Int.mul_assoc, Int.mul_comm x, Int.mul_assoc]
          rw [this]; omega
        rw [e, Int.add_mul_ediv_left _ _ (Int.ne_of_gt (pow_pos2 k)), ← Int.mul_assoc, Int.add_mul_emod_self_right]
    exact key m (Nat.le_refl _)
  | succ n ih =>
    have e : n + 1 + m = (n + m) + 1 := by omega
    rw [e, bitL, ih, bitL, List.cons_append]
    congr 2
    rw [Nat.add_comm n m, Int.pow_add, ← Int.ediv_ediv_of_nonneg (Int.le_of_lt (pow_pos2 m)), Int.add_comm, Int.add_mul_ediv_right _ _ (Int.ne_of_gt (pow_pos2 m)), Int.ediv_eq_zero_of_lt y0 y1, Int.zero_add]

/-! ### bits, as the law has them -/
theorem rngD_nat (n : Nat) : rngD 0 n = dNs (List.range n) := by
  unfold rngD dNs
  apply List.map_congr_left
  intro i _
  simp
theorem sem_law_signs (c : Cl) : ∀ ds st R xq, sp_law_signs c ds st R xq → w_law_signs c (EndsOf R xq) (startD ["_law_number_here", "_law_width", "_law_found", "_law_place"] ds) st := by
  rintro ds st R xq ⟨x, n, rfl, hn, k⟩
  show w_law_signs c ⟨_, _, _, _, _⟩ [some (.int x), some (.int n), none, none] st
  unfold w_law_signs
  walk_at "s"
  refine ⟨by omega, by omega, ?_⟩
  refine forD_ind (fun zs ρ st' => st' = st ∧ ∃ (j lf : Nat) (z : Option D), zs = rngD (j : Int) lf ∧ j + lf = n ∧ ρ = [some (.int x), some (.int n), some (.lst (dIs (bitL x j))), z]) ?_ ?_ _ _ _ ⟨rfl, 0, n, none, by simp, by simp, rfl⟩
  · rintro ρ st' ⟨rfl, j, lf, z, a1, a2, rfl⟩
    have : lf = 0 := by
      cases lf with
      | zero => rfl
      | succ l => rw [rngD_cons] at a1; cases a1
    subst this
    have : j = n := by omega
    subst this
    refine ⟨trivial, ?_⟩
    walk_at "s"
    exact k
  · rintro y ys ρ st' K ⟨rfl, j, lf, z, a1, a2, rfl⟩ hK
    cases lf with
    | zero => cases a1
    | succ lf =>
    rw [rngD_cons] at a1
    cases a1
    refine ⟨trivial, ?_⟩
    walk_at "s"
    refine dII_i (cpw (by omega)) ?_
    rw [Int.toNat_natCast, Int.one_mul]
    walk_at "s"
    have hp := pow_le (n := j) (by omega)
    refine dII_i (cdw (pow_pos2 j) (by omega)) ?_
    walk_at "s"
    refine dII_i (by decide) ?_
    walk_at "s"
    refine dAddA_l rfl rfl (by simp only [List.length_map, List.length_cons, List.length_nil, bitL_len, sizeLine]; omega) ?_
    walk_at "s"
    exact hK _ _ ⟨rfl, j + 1, lf, _, by simp, by omega, rfl⟩
theorem sem_law_number (c : Cl) : ∀ ds st R xq, sp_law_number c ds st R xq → w_law_number c (EndsOf R xq) (startD ["_law_bits", "_law_found", "_law_bit"] ds) st := by
  rintro ds st R xq ⟨l, rfl, ⟨hl, hb⟩, k⟩
  show w_law_number c ⟨_, _, _, _, _⟩ [some (.lst (dIs l)), none, none] st
  unfold w_law_number
  walk_at "s"
  refine forD_ind (fun zs ρ st' => st' = st ∧ ∃ (done left : List Int) (z : Option D), l = done ++ left ∧ zs = dIs left ∧ 0 ≤ numL done ∧ numL done < 2 ^ done.length ∧ ρ = [some (.lst (dIs l)), some (.int (numL done)), z]) ?_ ?_ _ _ _ ⟨rfl, [], l, none, rfl, rfl, by decide, by decide, rfl⟩
  · rintro ρ st' ⟨rfl, done, left, z, a1, a2, n0, n1, rfl⟩
    have : left = [] := by cases left with | nil => rfl | cons _ _ => cases a2
    subst this
    rw [List.append_nil] at a1
    subst a1
    refine ⟨trivial, ?_⟩
    walk_at "s"
    exact k
  · rintro y ys ρ st' K ⟨rfl, done, left, z, a1, a2, n0, n1, rfl⟩ hK
    cases left with
    | nil => cases a2
    | cons b left =>
    cases a2
    have hlen := congrArg List.length a1
    simp at hlen
    have hp := pow_le (n := done.length) (by omega)
    have hbb := hb b (by rw [a1]; simp)
    refine ⟨trivial, ?_⟩
    walk_at "s"
    refine dMulA_i (cmx (by omega) (by omega) (by omega) (by omega)) ?_
    walk_at "s"
    refine hK _ _ ⟨rfl, done ++ [b], left, _, by rw [a1]; simp, rfl, ?_, ?_, by rw [numL_app]⟩
    · rw [numL_app]; omega
    · rw [numL_app, List.length_append]
      show _ < 2 ^ (done.length + 1)
      rw [Int.pow_succ]; omega
theorem sem_law_whole (c : Cl) : ∀ ds st R xq, sp_law_whole c ds st R xq → w_law_whole c (EndsOf R xq) (startD ["_law_found", "_law_due"] ds) st := by
  rintro ds st R xq ⟨u, v, rfl, k⟩
  show w_law_whole c ⟨_, _, _, _, _⟩ [some (.int u), some (.int v)] st
  unfold w_law_whole
  walk_at "s"
  refine ⟨"int", true, rfl, rfl, ?_⟩
  walk_at "s"
  refine ⟨"int", false, rfl, rfl, ?_⟩
  walk_at "s"
  exact k
/-! ### terms that stay -/
theorem Keep.refl {ts : Ts} : Keep ts ts := fun _ _ h => h
theorem Keep.trans {a b d : Ts} (h : Keep a b) (h' : Keep b d) : Keep a d := fun j m e => h' j m (h j m e)
theorem keep_put {ts ts' : Ts} {n : Nd} {k : Kd} {i : Nat} (e : bput ts n k = (i, ts')) : Keep ts ts' := (bput_at e).1
theorem Keep.len {ts ts' : Ts} (h : Keep ts ts') : ts.length ≤ ts'.length := by
  cases q : ts.length with
  | zero => omega
  | succ m =>
    have hm : m < ts.length := by omega
    have := ndAt_lt (h m ts[m].1 (by simp [ndAt, hm]))
    omega
theorem TmOk.keep {mv : List (Str × Wo)} {ts ts' : Ts} {t m : Nat} {k : Kd} {wo : Wo} (h : TmOk mv ts t k wo m) (hk : Keep ts ts') : TmOk mv ts' t k wo m :=
  ⟨Nat.lt_of_lt_of_le h.lt hk.len, fun t1 o k1 => h.kd t1 o (hk.trans k1), fun t1 o k1 => h.wo t1 o (hk.trans k1), fun t1 o k1 => h.ub t1 o (hk.trans k1)⟩
theorem TmOk.mono {mv : List (Str × Wo)} {ts : Ts} {t m m' : Nat} {k : Kd} {wo : Wo} (h : TmOk mv ts t k wo m) (l : m ≤ m') : TmOk mv ts t k wo m' :=
  ⟨h.lt, h.kd, h.wo, fun t1 o k1 F hn hF => Nat.le_trans (h.ub t1 o k1 F hn hF) l⟩
theorem MdlOk.keep {ts ts' : Ts} {mv : List (Str × Wo)} (h : MdlOk ts mv) (hk : Keep ts ts') : MdlOk ts' mv :=
  ⟨h.asc, fun p hp => let ⟨a, b, i, k, e, f⟩ := h.ok p hp; ⟨a, b, i, k, hk _ _ e, f⟩⟩
/-- under a made term: itself, or what lies under a part -/
theorem under_ap {ts : Ts} {i j : Nat} {w : Str} {ps : List Nat} {ms : List Int} (e : ndAt ts i = some (.ap w ps ms)) (h : Under ts [i] j) : j = i ∨ ∃ p ∈ ps, Under ts [p] j := by
  refine h (fun j => j = i ∨ ∃ p ∈ ps, Under ts [p] j) (by simp) ?_
  rintro j w' qs ns hj ej q hq
  rcases hj with rfl | ⟨p, hp, hu⟩
  · rw [e] at ej
    cases ej
    exact .inr ⟨q, hq, fun P h1 _ => h1 q (by simp)⟩
  · exact .inr ⟨p, hp, fun P h1 h2 => h2 j w' qs ns (hu P h1 h2) ej q hq⟩
theorem split_len {α : Type} (P : α → Bool) (l : List α) : l.length = (l.filter P).length + (l.filter fun x => !P x).length := by
  induction l with
  | nil => rfl
  | cons a l ih => by_cases q : P a = true <;> simp [q] <;> omega
open Classical in
theorem ub_parts {ts : Ts} {m : Nat} : ∀ {ps : List Nat} {F : List Nat}, F.Nodup → (∀ j ∈ F, ∃ p ∈ ps, Under ts [p] j) → (∀ p ∈ ps, UBm ts [p] m) → F.length ≤ ps.length * m
  | [], F, _, h, _ => by
    cases F with
    | nil => simp
    | cons a F => obtain ⟨_, hp, _⟩ := h a (by simp); simp at hp
  | p :: ps, F, hn, h, hu => by
    rw [split_len (fun j => decide (Under ts [p] j)) F]
    have h1 := hu p (by simp) (F.filter fun j => decide (Under ts [p] j)) (hn.filter _) fun j hj => by simpa using (List.mem_filter.mp hj).2
    have h2 := ub_parts (ps := ps) (F := F.filter fun j => !decide (Under ts [p] j)) (hn.filter _) (fun j hj => by
      obtain ⟨a, b⟩ := List.mem_filter.mp hj
      obtain ⟨q, hq, hu'⟩ := h j a
      rcases List.mem_cons.mp hq with rfl | hq
      · simp [hu'] at b
      · exact ⟨q, hq, hu'⟩) fun q hq => hu q (by simp [hq])
    rw [List.length_cons, Nat.add_mul, Nat.one_mul]
    omega
theorem ub_ap {ts : Ts} {i m : Nat} {w : Str} {ps : List Nat} {ms : List Int} (e : ndAt ts i = some (.ap w ps ms)) (hu : ∀ p ∈ ps, UBm ts [p] m) : UBm ts [i] (1 + ps.length * m) := by
  intro F hn hF
  have h1 : (F.erase i).length + 1 ≥ F.length := by
    by_cases q : i ∈ F
    · rw [List.length_erase_of_mem q]; omega
    · rw [List.erase_of_not_mem q]; omega
  have h2 := ub_parts (F := F.erase i) (hn.erase i) (fun j hj => by
    have hj' := List.mem_of_mem_erase hj
    rcases under_ap e (hF j hj') with rfl | q
    · exact absurd hj (List.Nodup.not_mem_erase hn)
    · exact q) hu
  omega
theorem ub_nm {ts : Ts} {i : Nat} {x : Str} {k : Kd} (e : ndAt ts i = some (.nm x k)) : UBm ts [i] 1 := by
  intro F hn hF
  have : ∀ j ∈ F, j ∈ [i] := fun j hj => by
    refine hF j hj (fun j => j ∈ [i]) (fun j h => h) ?_
    intro j w ps ms hj' ej p hp
    simp at hj'
    subst hj'
    rw [e] at ej; cases ej
  exact nodup_subN hn this

/-! ### terms made, worths told -/
theorem told_at {c : Cl} {B : BH} {ts : Ts} {st : Sto} {R : DQ} {xq : XQ} {t m : Nat} {k : Kd} {wo : Wo} {xs : List D} {mv : List (Str × Wo)} (h : TmOk mv ts t k wo m) (hm : m ≤ 63) (hb : BankAt c B ts st) (ho : BankOk ts) (md : MdlD xs mv) (mo : MdlOk ts mv) (kk : ∀ st', Fx [] st st' → R wo.d st') : spworth_of c [.hdl B.b, .int t, .lst xs] st R xq := by
  obtain ⟨ws, hw⟩ := means_ex (fun x => mv.lookup x) ho
  refine ⟨B, ts, t, .lst xs, xs, mv, ws, rfl, hb, ho, fun F a b => Nat.le_trans (h.ub ts ho .refl F a b) hm, h.lt, .inl rfl, .inl rfl, md, mo, hw, ?_⟩
  intro st' f
  rw [h.wo ts ho .refl ws hw]
  exact kk st' f
/-- parts of a term to be made -/
structure Prts (mv : List (Str × Wo)) (ts : Ts) (ps : List Nat) (ks : List Kd) (wos : List Wo) (m : Nat) : Prop where
  lt : ∀ p ∈ ps, p < ts.length
  kd : ∀ ts', BankOk ts' → Keep ts ts' → ps.map (kindAt ts') = ks
  wo : ∀ ts', BankOk ts' → Keep ts ts' → ∀ ws, IsMeans (fun x => mv.lookup x) ts' ws → ps.map (woAt ws) = wos
  ub : ∀ ts', BankOk ts' → Keep ts ts' → ∀ p ∈ ps, UBm ts' [p] m
theorem Prts.nil {mv : List (Str × Wo)} {ts : Ts} {m : Nat} : Prts mv ts [] [] [] m := ⟨by simp, fun _ _ _ => rfl, fun _ _ _ _ _ => rfl, by simp⟩
theorem Prts.cons {mv : List (Str × Wo)} {ts : Ts} {t m : Nat} {k : Kd} {wo : Wo} {ps : List Nat} {ks : List Kd} {wos : List Wo} (h : TmOk mv ts t k wo m) (h' : Prts mv ts ps ks wos m) : Prts mv ts (t :: ps) (k :: ks) (wo :: wos) m := by
  refine ⟨?_, ?_, ?_, ?_⟩
  · intro p hp
    rcases List.mem_cons.mp hp with rfl | hp
    · exact h.lt
    · exact h'.lt p hp
  · intro ts' o k1
    rw [List.map_cons, h.kd ts' o k1, h'.kd ts' o k1]
  · intro ts' o k1 ws hw
    rw [List.map_cons, h.wo ts' o k1 ws hw, h'.wo ts' o k1 ws hw]
  · intro ts' o k1 p hp
    rcases List.mem_cons.mp hp with rfl | hp
    · exact h.ub ts' o k1
    · exact h'.ub ts' o k1 p hp
theorem tm_ap {mv : List (Str × Wo)} {ts ts' : Ts} {i m : Nat} {w : Str} {ps : List Nat} {ms : List Int} {ks : List Kd} {wos : List Wo} {kd : Kd} (e : ndAt ts' i = some (.ap w ps ms)) (hk : Keep ts ts') (h : Prts mv ts ps ks wos m) (hkd : kindOf w ks (dIs ms) = some kd) : TmOk mv ts' i kd (meanOf w ms ks wos) (1 + ps.length * m) := by
  refine ⟨ndAt_lt e, ?_, ?_, ?_⟩
  · intro t1 o k1
    have h2 := (o.ap (k1 _ _ e)).2
    rw [h.kd t1 o (hk.trans k1), hkd] at h2
    injection h2 with h2
    exact h2.symm
  · intro t1 o k1 ws hw
    have e1 := k1 _ _ e
    have hi := ndAt_lt e1
    have e2 : t1[i]? = some t1[i] := by simp [hi]
    have e3 : t1[i].1 = .ap w ps ms := by simpa [ndAt, hi] using e1
    have q := hw.at_ i _ e2
    rw [e3] at q
    rw [q]
    show meanOf w ms (ps.map (kindAt t1)) (ps.map (woAt ws)) = _
    rw [h.kd t1 o (hk.trans k1), h.wo t1 o (hk.trans k1) ws hw]
  · intro t1 o k1
    exact ub_ap (k1 _ _ e) (h.ub t1 o (hk.trans k1))
theorem make_at {c : Cl} {B : BH} {ts : Ts} {st : Sto} {R : DQ} {xq : XQ} {m : Nat} {w : Str} {ps : List Nat} {ms : List Int} {ks : List Kd} {wos : List Wo} {kd : Kd} {mv : List (Str × Wo)} (h : Prts mv ts ps ks wos m) (hkd : kindOf w ks (dIs ms) = some kd) (hb : BankAt c B ts st) (ho : BankOk ts) (hl : ts.length < 100000) (lp : ps.length ≤ 1000) (lm : ms.length ≤ 1000)
    (k : ∀ (i : Nat) (ts' : Ts) (st' : Sto), BankAt c B ts' st' → BankOk ts' → Keep ts ts' → ts'.length ≤ ts.length + 1 → Fx B.fp st st' → TmOk mv ts' i kd (meanOf w ms ks wos) (1 + ps.length * m) → R (.int i) st') : spBank_make c [.hdl B.b, .str w, .tup (dNs ps), .tup (dIs ms)] st R xq := by
  refine ⟨B, ts, w, .tup (dNs ps), .tup (dIs ms), ps, ms, kd, rfl, hb, ho, hl, .inr (.inl rfl), .inr (.inl rfl), lp, lm, h.lt, by rw [h.kd ts ho .refl]; exact hkd, ?_⟩
  intro i ts' st' e hb' ho' f
  obtain ⟨a1, a2, a3⟩ := bput_at e
  exact k i ts' st' hb' ho' a1 a3 f (tm_ap a2 a1 h hkd)
theorem cut_mid {xs : List Int} {a b : Nat} (h1 : a ≤ b) (h2 : b ≤ xs.length) {i j : Int} (ei : i = (a : Int)) (ej : j = (b : Int)) : cutD (dIs xs) (some i) (some j) = dIs ((xs.drop a).take (b - a)) := by
  subst ei ej
  unfold cutD
  rw [HT.sIx_nat, HT.sIx_nat, List.length_map, Nat.min_eq_left (Nat.le_trans h1 h2), Nat.min_eq_left h2]
  simp
theorem cut_kind {n h l : Nat} (h1 : l ≤ h) (h2 : h < n) : kindOf "cut" [.word n] (dIs [(h : Int), (l : Int)]) = some (.word (h - l + 1)) := by
  rw [kind_rule (g := kCut) rfl]
  show (if isW (.int (h : Int)) 0 ((n : Int) - 1) = true ∧ isW (.int (l : Int)) 0 (h : Int) = true then some (Kd.word ((h : Int) - (l : Int) + 1).toNat) else none) = _
  rw [if_pos ⟨isW_int.mpr (by omega), isW_int.mpr (by omega)⟩]
  congr 2
  omega
theorem sem_law_cuts (c : Cl) : ∀ ds st R xq, sp_law_cuts c ds st R xq → w_law_cuts c (EndsOf R xq) (startD ["_law_bank", "_law_term", "_law_bits", "_law_model", "_law_width", "_law_low", "_law_flipped", "_law_high", "_law_one", "_law_due", "_law_bit"] ds) st := by
  rintro ds st R xq ⟨B, ts, t, n, m, x, xs, mv, rfl, hb, ho, hlen, n1, n2, x0, x1, tm, hm, md, mo, k⟩
  show w_law_cuts c ⟨_, _, _, _, _⟩ [some (.hdl B.b), some (.int t), some (.lst (dIs (bitL x n))), some (.lst xs), none, none, none, none, none, none, none] st
  have hbl : (dIs (bitL x n)).length = n := by rw [List.length_map, bitL_len]
  unfold w_law_cuts
  walk_at "s"
  rw [hbl]
  refine ⟨by omega, by omega, ?_⟩
  have bits : ∀ (l : List Int), (∀ b ∈ l, b ∈ bitL x n) → l.length ≤ 8 → Bits l := fun l h h8 => ⟨h8, fun b hb => bitL_bits x n b (h b hb)⟩
  refine forD_ind (fun zs ρ st' => ∃ (j lf : Nat) (ts' : Ts) (z5 z7 z8 z9 : Option D), zs = rngD (j : Int) lf ∧ j + lf = n ∧ BankAt c B ts' st' ∧ BankOk ts' ∧ Keep ts ts' ∧ ts'.length ≤ ts.length + 8 * j ∧ Fx B.fp st st' ∧ ρ = [some (.hdl B.b), some (.int t), some (.lst (dIs (bitL x n))), some (.lst xs), some (.int n), z5, none, z7, z8, z9, none]) ?_ ?_ _ _ _ ⟨0, n, ts, none, none, none, none, by simp, by simp, hb, ho, .refl, by omega, .refl, rfl⟩
  · rintro ρ st' ⟨j, lf, ts', z5, z7, z8, z9, a1, a2, hb', ho', hk, hl', f, rfl⟩
    refine ⟨trivial, ?_⟩
    walk_at "s"
    refine ⟨hb'.is, ?_⟩
    walk_at "s"
    refine ⟨rfl, rfl, ?_⟩
    have tm' := tm.keep hk
    refine make_at (w := "flip") (ps := [t]) (ms := []) (kd := .word n) (mv := mv) (Prts.cons tm' .nil) (by rw [kind_rule (g := kWord) rfl]; rfl) hb' ho' (by omega) (by simp) (by simp) ?_
    intro i ts2 st2 hb2 ho2 hk2 hl2 f2 tm2
    rw [mean_rule (f := mFlip) rfl] at tm2
    walk_at "s"
    refine told_at tm2 (by simp; omega) hb2 ho2 md (mo.keep (hk.trans hk2)) ?_
    intro st3 f3
    walk_at "s"
    refine lcD_ind (fun ys acc st4 => st4 = st3 ∧ ∃ done left : List Int, bitL x n = done ++ left ∧ ys = dIs left ∧ acc = dIs (done.map fun b => 1 - b)) ?_ ?_ _ _ _ ⟨rfl, [], bitL x n, rfl, rfl, rfl⟩
    · rintro acc st4 ⟨rfl, done, left, b1, b2, rfl⟩
      have : left = [] := by cases left with | nil => rfl | cons _ _ => cases b2
      subst this
      rw [List.append_nil] at b1
      subst b1
      refine ⟨trivial, ?_⟩
      walk_at "s"
      refine ⟨_, rfl, ⟨by rw [List.length_map, bitL_len]; exact n2, fun b hb => ?_⟩, ?_⟩
      · obtain ⟨a, ha, rfl⟩ := List.mem_map.mp hb
        have := bitL_bits x n a ha
        omega
      walk_at "s"
      refine ⟨_, _, rfl, ?_⟩
      rw [numL_flip, bitL_len, numL_bitL, Int.emod_eq_of_lt x0 x1, decide_eq_true rfl]
      exact k ts2 st4 (hb2.fx f3 (by simp) (by simp)) ho2 (hk.trans hk2) (by omega) ((f.trans f2 fun k hk => .inl hk).trans f3 (by simp))
    · rintro y ys acc st4 K ⟨rfl, done, left, b1, b2, rfl⟩ hK
      cases left with
      | nil => cases b2
      | cons b left =>
      cases b2
      refine ⟨trivial, ?_⟩
      walk_at "s"
      have := congrArg List.length b1
      rw [bitL_len] at this
      simp at this
      refine ⟨by simp only [List.length_map, sizeLine]; omega, hK _ _ ⟨rfl, done ++ [b], left, by rw [b1]; simp, rfl, by simp [dIs]⟩⟩
  · rintro y ys ρ st' K ⟨j, lf, ts', z5, z7, z8, z9, a1, a2, hb', ho', hk, hl', f, rfl⟩ hK
    cases lf with
    | zero => cases a1
    | succ lf =>
    rw [rngD_cons] at a1
    cases a1
    refine ⟨trivial, ?_⟩
    walk_at "s"
    refine ⟨by omega, ?_⟩
    have er : ((n : Int) - (j : Int)).toNat = n - j := by omega
    rw [er]
    refine forD_ind (fun zs ρ st2 => ∃ (g lf' : Nat) (ts2 : Ts) (z7 z8 z9 : Option D), zs = rngD (g : Int) lf' ∧ g + lf' = n ∧ j ≤ g ∧ BankAt c B ts2 st2 ∧ BankOk ts2 ∧ Keep ts ts2 ∧ ts2.length ≤ ts.length + 8 * j + (g - j) ∧ Fx B.fp st st2 ∧ ρ = [some (.hdl B.b), some (.int t), some (.lst (dIs (bitL x n))), some (.lst xs), some (.int n), some (.int (j : Int)), none, z7, z8, z9, none]) ?_ ?_ _ _ _ ⟨j, n - j, ts', _, _, _, rfl, by omega, Nat.le_refl _, hb', ho', hk, by omega, f, rfl⟩
    · rintro ρ st2 ⟨g, lf', ts2, z7, z8, z9, b1, b2, b3, hb2, ho2, hk2, hl2, f2, rfl⟩
      have : lf' = 0 := by
        cases lf' with
        | zero => rfl
        | succ l => rw [rngD_cons] at b1; cases b1
      subst this
      refine ⟨trivial, ?_⟩
      exact hK _ _ ⟨j + 1, lf, ts2, _, _, _, _, by simp, by omega, hb2, ho2, hk2, by omega, f2, rfl⟩
    · rintro y ys ρ st2 K2 ⟨g, lf', ts2, z7, z8, z9, b1, b2, b3, hb2, ho2, hk2, hl2, f2, rfl⟩ hK2
      cases lf' with
      | zero => cases b1
      | succ lf' =>
      rw [rngD_cons] at b1
      cases b1
      refine ⟨trivial, ?_⟩
      walk_at "s"
      refine ⟨hb2.is, ?_⟩
      walk_at "s"
      refine ⟨rfl, rfl, ?_⟩
      refine make_at (w := "cut") (ps := [t]) (ms := [(g : Int), (j : Int)]) (mv := mv) (Prts.cons (tm.keep hk2) .nil) (cut_kind b3 (by omega)) hb2 ho2 (by omega) (by simp) (by simp) ?_
      intro i ts3 st3 hb3 ho3 hk3 hl3 f3 tm3
      rw [mean_rule (f := mCut) rfl] at tm3
      walk_at "s"
      rw [cut_mid (a := n - 1 - g) (b := n - j) (by omega) (by rw [bitL_len]; omega) (by omega) (by omega)]
      have e1 : n - j - (n - 1 - g) = g - j + 1 := by omega
      rw [e1]
      refine ⟨_, rfl, bits _ (fun b hb => List.mem_of_mem_drop (List.mem_of_mem_take hb)) (by rw [List.length_take]; omega), ?_⟩
      rw [bitL_cut x b3 (by omega)]
      walk_at "s"
      refine ⟨hb3.is, ?_⟩
      walk_at "s"
      refine ⟨B, ts3, i, rfl, hb3, tm3.lt, ?_⟩
      rw [tm3.kd ts3 ho3 .refl]
      walk_at "s"
      have e2 : (g : Int) - (j : Int) + 1 = ((g - j + 1 : Nat) : Int) := by omega
      rw [e2]
      refine dEQ_kd (a := .word (g - j + 1)) (b := .word (g - j + 1)) ?_
      walk_at "s"
      refine ifF (by simp [xorB]) ?_
      walk_at "s"
      refine told_at tm3 (by simp; omega) hb3 ho3 md (mo.keep (hk2.trans hk3)) ?_
      intro st4 f4
      walk_at "s"
      have e3 : ((g : Int) - (j : Int) + 1).toNat = g - j + 1 := by omega
      refine ⟨_, _, rfl, ?_⟩
      rw [Int.toNat_natCast, e3, decide_eq_true rfl]
      walk_at "s"
      exact hK2 _ _ ⟨g + 1, lf', ts3, _, _, _, by simp, by omega, by omega, hb3.fx f4 (by simp) (by simp), ho3, hk2.trans hk3, by omega, (f2.trans f3 fun k hk => .inl hk).trans f4 (by simp), rfl⟩

theorem sem_law_chosen (c : Cl) : ∀ ds st R xq, sp_law_chosen c ds st R xq → w_law_chosen c (EndsOf R xq) (startD ["_law_bank", "_law_term", "_law_other", "_law_numbers", "_law_model", "_law_same", "_law_found", "_law_one", "_law_two"] ds) st := by
  rintro ds st R xq ⟨B, ts, t, u, n, m, x, y, xs, mv, rfl, hb, ho, hlen, tx, ty, hm, md, mo, k⟩
  show w_law_chosen c ⟨_, _, _, _, _⟩ [some (.hdl B.b), some (.int t), some (.int u), some (.lst [.int x, .int y]), some (.lst xs), none, none, none, none] st
  unfold w_law_chosen
  walk_at "s"
  refine ⟨hb.is, ?_⟩
  walk_at "s"
  refine ⟨rfl, rfl, ?_⟩
  refine make_at (w := "same") (ps := [t, u]) (ms := []) (kd := .truth) (mv := mv) (Prts.cons tx (Prts.cons ty .nil)) (by rw [kind_rule (g := kAlike) rfl]; simp [kAlike]) hb ho (by omega) (by simp) (by simp) ?_
  intro i1 ts1 st1 hb1 ho1 hk1 hl1 f1 tm1
  rw [mean_rule (f := mSame) rfl] at tm1
  have hsame : mSame [] [.word n, .word n] [.n x, .n y] = .t (decide (x = y)) := by show Wo.t (decide (Wo.n x = Wo.n y)) = _; simp
  rw [hsame] at tm1
  walk_at "s"
  refine told_at tm1 (by simp; omega) hb1 ho1 md (mo.keep hk1) ?_
  intro st2 f2
  have hb2 := hb1.fx f2 (by simp) (by simp)
  walk_at "s"
  refine ⟨"bool", true, rfl, rfl, ?_⟩
  walk_at "s"
  refine ixL0 ?_
  walk_at "s"
  refine ixL1 ?_
  walk_at "s"
  refine dEQ_b ?_
  walk_at "s"
  refine ifF (by simp [xorB]) ?_
  walk_at "s"
  refine ⟨hb2.is, ?_⟩
  walk_at "s"
  refine ⟨rfl, rfl, ?_⟩
  have tx1 := (tx.keep hk1).mono (m' := 1 + [t, u].length * m) (by simp; omega)
  have ty1 := (ty.keep hk1).mono (m' := 1 + [t, u].length * m) (by simp; omega)
  refine make_at (w := "choose") (ps := [i1, t, u]) (ms := []) (kd := .word n) (mv := mv) (Prts.cons tm1 (Prts.cons tx1 (Prts.cons ty1 .nil))) (by rw [kind_rule (g := kChoice) rfl]; simp [kChoice]) hb2 ho1 (by omega) (by simp) (by simp) ?_
  intro i3 ts3 st3 hb3 ho3 hk3 hl3 f3 tm3
  rw [mean_rule (f := mChoose) rfl] at tm3
  have h3 : mChoose [] [.truth, .word n, .word n] [.t (decide (x = y)), .n x, .n y] = .n y := by
    show (if decide (x = y) = true then Wo.n x else Wo.n y) = _
    by_cases q : x = y <;> simp [q]
  rw [h3] at tm3
  walk_at "s"
  refine ⟨hb3.is, ?_⟩
  walk_at "s"
  refine ⟨hb3.is, ?_⟩
  walk_at "s"
  refine ⟨rfl, rfl, ?_⟩
  refine make_at (w := "not") (ps := [i1]) (ms := []) (kd := .truth) (mv := mv) (Prts.cons (tm1.keep hk3) .nil) (by rw [kind_rule (g := kTruth) rfl]; simp [kTruth]) hb3 ho3 (by omega) (by simp) (by simp) ?_
  intro i4 ts4 st4 hb4 ho4 hk4 hl4 f4 tm4
  rw [mean_rule (f := mNotW) rfl] at tm4
  walk_at "s"
  refine ⟨rfl, rfl, ?_⟩
  have big : m ≤ 1 + [i1].length * (1 + [t, u].length * m) := by simp; omega
  refine make_at (w := "choose") (ps := [i4, t, u]) (ms := []) (kd := .word n) (mv := mv) (Prts.cons tm4 (Prts.cons (((tx.keep hk1).keep (hk3.trans hk4)).mono big) (Prts.cons (((ty.keep hk1).keep (hk3.trans hk4)).mono big) .nil))) (by rw [kind_rule (g := kChoice) rfl]; simp [kChoice]) hb4 ho4 (by omega) (by simp) (by simp) ?_
  intro i5 ts5 st5 hb5 ho5 hk5 hl5 f5 tm5
  rw [mean_rule (f := mChoose) rfl] at tm5
  have h5 : mChoose [] [.truth, .word n, .word n] [mNotW [] [.truth] [.t (decide (x = y))], .n x, .n y] = .n x := by
    show (if (!decide (x = y)) = true then Wo.n x else Wo.n y) = _
    by_cases q : x = y <;> simp [q]
  rw [h5] at tm5
  have hk15 : Keep ts ts5 := hk1.trans (hk3.trans (hk4.trans hk5))
  have mo5 := mo.keep hk15
  walk_at "s"
  refine told_at (tm3.keep (hk4.trans hk5)) (by simp; omega) hb5 ho5 md mo5 ?_
  intro st6 f6
  have hb6 := hb5.fx f6 (by simp) (by simp)
  walk_at "s"
  refine ixL1 ?_
  walk_at "s"
  refine ⟨_, _, rfl, ?_⟩
  rw [decide_eq_true rfl]
  walk_at "s"
  refine told_at tm5 (by simp; omega) hb6 ho5 md mo5 ?_
  intro st7 f7
  walk_at "s"
  refine ixL0 ?_
  walk_at "s"
  refine ⟨_, _, rfl, ?_⟩
  rw [decide_eq_true rfl]
  refine k ts5 st7 (hb6.fx f7 (by simp) (by simp)) ho5 hk15 ?_
  exact ((((((f1.trans f2 (by simp)).trans f3 fun k hk => .inl hk).trans f4 fun k hk => .inl hk).trans f5 fun k hk => .inl hk).trans f6 (by simp)).trans f7 (by simp))

/-! ### the law of cuts, joins, choices -/
theorem tm_nm {mv : List (Str × Wo)} {ts : Ts} {i : Nat} {x : Str} {k : Kd} {wo : Wo} (e : ndAt ts i = some (.nm x k)) (hl : mv.lookup x = some wo) : TmOk mv ts i k wo 1 :=
  ⟨ndAt_lt e, fun t1 o k1 => (o.nm (k1 _ _ e)).1, fun t1 o k1 ws hw => (nm_node o (k1 _ _ e)).2 mv ws hw wo hl, fun t1 o k1 => ub_nm (k1 _ _ e)⟩
theorem tm_num {mv : List (Str × Wo)} {ts : Ts} {i n : Nat} {v : Int} (n1 : 1 ≤ n) (n2 : n ≤ 8) (h0 : 0 ≤ v) (h1 : v < 2 ^ n) (e : ndAt ts i = some (.ap "number" [] [(n : Int), v])) : TmOk mv ts i (.word n) (.n v) 1 :=
  ⟨ndAt_lt e, fun t1 o k1 => (num_node o n1 n2 h0 h1 (k1 _ _ e)).1, fun t1 o k1 ws hw => (num_node o n1 n2 h0 h1 (k1 _ _ e)).2 _ ws hw, fun t1 o k1 => by
    have := ub_ap (m := 0) (k1 _ _ e) (by simp)
    simpa using this⟩
theorem bput_only {ts ts' : Ts} {n n' : Nd} {k : Kd} {i j : Nat} (e : bput ts n k = (i, ts')) (h : ndAt ts' j = some n') : n' = n ∨ ndAt ts j = some n' := by
  cases q : nIx n ts with
  | some l => rw [bput_some q] at e; cases e; exact .inr h
  | none =>
    rw [bput_none q] at e; cases e
    by_cases hj : j < ts.length
    · rw [ndAt_app hj] at h; exact .inr h
    · have := ndAt_lt h
      simp at this
      have : j = ts.length := by omega
      subst this
      rw [ndAt_last] at h
      exact .inl (by cases h; rfl)
/-- names put into a bank -/
structure NmsIn (ts : Ts) (done : List (Str × Nat)) (ids : List Nat) : Prop where
  len : ids.length = done.length
  tl : ts.length ≤ done.length
  at_ : ∀ (j i : Nat) (p : Str × Nat), ids[j]? = some i → done[j]? = some p → ndAt ts i = some (.nm p.1 (.word p.2))
  only : ∀ (i : Nat) (n : Nd), ndAt ts i = some n → ∃ p ∈ done, n = .nm p.1 (.word p.2)
theorem NmsIn.snoc {ts ts' : Ts} {done : List (Str × Nat)} {ids : List Nat} {x : Str} {n i : Nat} (h : NmsIn ts done ids) (e : bput ts (.nm x (.word n)) (.word n) = (i, ts')) : NmsIn ts' (done ++ [(x, n)]) (ids ++ [i]) := by
  obtain ⟨a1, a2, a3⟩ := bput_at e
  have hl := h.len
  have htl := h.tl
  refine ⟨by simp [hl], by simp; omega, ?_, ?_⟩
  · intro j i' p e1 e2
    by_cases hj : j < ids.length
    · rw [List.getElem?_append_left hj] at e1
      rw [List.getElem?_append_left (by omega)] at e2
      exact a1 _ _ (h.at_ j i' p e1 e2)
    · have := ltOf e1
      simp at this
      have : j = ids.length := by omega
      subst this
      simp at e1; subst e1
      rw [hl] at e2
      simp at e2; subst e2
      exact a2
  · intro j n' e1
    rcases bput_only e e1 with rfl | q
    · exact ⟨(x, n), by simp, rfl⟩
    · obtain ⟨p, hp, e2⟩ := h.only j n' q
      exact ⟨p, by simp [hp], e2⟩
theorem zip_prsI {xs : List Str} {vs : List Int} : zipD (xs.map D.str) (dIs vs) = (prsI (xs.zip vs)).map pairD := by
  unfold zipD prsI dIs
  rw [List.zip_map, List.map_map, List.map_map]
  rfl
theorem mdl_three {a b d : Str} {x y z : Int} {lp : List (Str × Int)} (hlp : ∀ p, p ∈ lp ↔ p ∈ [(a, x), (b, y), (d, z)]) (hasc : (lp.map fun p => (p.1, Wo.n p.2)).Pairwise fun p q => ltT p.1 q.1 = true) :
    (lp.map fun p => (p.1, Wo.n p.2)).lookup a = some (.n x) ∧ (lp.map fun p => (p.1, Wo.n p.2)).lookup b = some (.n y) ∧ (lp.map fun p => (p.1, Wo.n p.2)).lookup d = some (.n z) := by
  have hnd : ((lp.map fun p => (p.1, Wo.n p.2)).map (·.1)).Nodup := by
    rw [List.nodup_iff_pairwise_ne, List.pairwise_map]
    exact hasc.imp fun {p q} h => ltT_ne h
  exact ⟨lookup_of hnd (List.mem_map.mpr ⟨(a, x), (hlp _).mpr (by simp), rfl⟩), lookup_of hnd (List.mem_map.mpr ⟨(b, y), (hlp _).mpr (by simp), rfl⟩), lookup_of hnd (List.mem_map.mpr ⟨(d, z), (hlp _).mpr (by simp), rfl⟩)⟩
theorem join_kind {n m : Nat} (h : n + m ≤ 8) : kindOf "join" [.word n, .word m] (dIs []) = some (.word (n + m)) := by
  rw [kind_rule (g := kJoined) rfl]; simp [kJoined, h]
theorem join_fit {x y : Int} {n m : Nat} (x0 : 0 ≤ x) (x1 : x < 2 ^ n) (y0 : 0 ≤ y) (y1 : y < 2 ^ m) : 0 ≤ x * 2 ^ m + y ∧ x * 2 ^ m + y < 2 ^ (n + m) := by
  have hp := pow_pos2 m
  have h1 : 0 ≤ x * 2 ^ m := Int.mul_nonneg x0 (Int.le_of_lt hp)
  have h2 : (x + 1) * 2 ^ m ≤ 2 ^ n * 2 ^ m := Int.mul_le_mul_of_nonneg_right (by omega) (Int.le_of_lt hp)
  rw [Int.pow_add]
  rw [Int.add_mul, Int.one_mul] at h2
  omega

theorem sem_law (c : Cl) : ∀ ds st R xq, splaw c ds st R xq → wlaw c (EndsOf R xq) (startD ["_law_script", "_law_spring_here", "_law_turn", "_law_wide", "_law_narrow", "_law_numbers", "_law_names", "_law_kinds", "_law_bank", "_law_model", "_law_terms", "_law_both", "_law_bits", "_law_pair", "_law_name", "_law_kind"] ds) st := by
  rintro ds st R xq ⟨ns, rfl, hns, k⟩
  show wlaw c ⟨_, _, _, _, _⟩ [some (.scr (dIs ns)), none, none, none, none, none, none, none, none, none, none, none, none, none, none, none] st
  unfold wlaw
  walk_at "s"
  refine ⟨ns, rfl, hns, ?_⟩
  intro cell hcell
  generalize hb : st.length = b
  have spr1 : Spr (st ++ [cell]) b 0 := ⟨cell, by rw [← hb]; exact appN, hcell⟩
  generalize st ++ [cell] = st1 at spr1
  walk_at "s"
  have hm : 0 ≤ (if (10 : Int) < ((dIs ns).length : Int) then 10 else ((dIs ns).length : Int)) ∧ (if (10 : Int) < ((dIs ns).length : Int) then 10 else ((dIs ns).length : Int)) ≤ 10 := by split <;> omega
  generalize (if (10 : Int) < ((dIs ns).length : Int) then 10 else ((dIs ns).length : Int)) = mm at hm
  refine ⟨by omega, by omega, ?_⟩
  refine forD_ind (fun zs ρ st' => ∃ (j lf : Nat) (z2 z3 z4 z5 z6 z7 z8 z9 z10 z11 z12 : Option D), zs = rngD (j : Int) lf ∧ j + lf ≤ 11 ∧ Spr st' b (200 * j) ∧ ρ = [some (.scr (dIs ns)), some (.hdl b), z2, z3, z4, z5, z6, z7, z8, z9, z10, z11, z12, none, none, none]) ?_ ?_ _ _ _ ⟨0, (1 + mm).toNat, none, none, none, none, none, none, none, none, none, none, none, rfl, by omega, spr1, rfl⟩
  · rintro ρ st' ⟨j, lf, z2, z3, z4, z5, z6, z7, z8, z9, z10, z11, z12, a1, a2, spr, rfl⟩
    refine ⟨trivial, ?_⟩
    walk_at "s"
    exact k st'
  · rintro y0' ys ρ st' K ⟨j, lf, z2, z3, z4, z5, z6, z7, z8, z9, z10, z11, z12, a1, a2, spr, rfl⟩ hK
    cases lf with
    | zero => cases a1
    | succ lf =>
    rw [rngD_cons] at a1
    cases a1
    refine ⟨trivial, ?_⟩
    walk_at "s"
    refine ⟨b, 7, _, rfl, spr, by omega, by omega, by omega, ?_⟩
    intro r2 st2 r20 r21 s2 l2
    obtain ⟨w, hw⟩ : ∃ w : Nat, (1 : Int) + r2 = (w : Int) := ⟨(1 + r2).toNat, by omega⟩
    walk_at "s"
    rw [hw]
    refine ⟨b, 8 - (w : Int), _, rfl, s2.spr, by omega, by omega, by omega, ?_⟩
    intro r3 st3 r30 r31 s3 l3
    obtain ⟨v, hv⟩ : ∃ v : Nat, (1 : Int) + r3 = (v : Int) := ⟨(1 + r3).toNat, by omega⟩
    walk_at "s"
    rw [hv]
    have w1 : 1 ≤ w := by omega
    have v1 : 1 ≤ v := by omega
    have wv : w + v ≤ 8 := by omega
    have pw := pow_le (n := w) (by omega)
    have pv := pow_le (n := v) (by omega)
    refine dII_i (cpw (by omega)) ?_
    rw [Int.toNat_natCast, Int.one_mul]
    walk_at "s"
    refine ⟨b, 2 ^ w, _, rfl, s3.spr, pow_pos2 w, by omega, by omega, ?_⟩
    intro x st4 x0 x1 s4 l4
    walk_at "s"
    refine dII_i (cpw (by omega)) ?_
    rw [Int.toNat_natCast, Int.one_mul]
    walk_at "s"
    refine ⟨b, 2 ^ v, _, rfl, s4.spr, pow_pos2 v, by omega, by omega, ?_⟩
    intro y st5 y0 y1 s5 l5
    walk_at "s"
    refine dII_i (cpw (by omega)) ?_
    rw [Int.toNat_natCast, Int.one_mul]
    walk_at "s"
    refine ⟨b, 2 ^ w, _, rfl, s5.spr, pow_pos2 w, by omega, by omega, ?_⟩
    intro z st6 z0 z1 s6 l6
    walk_at "s"
    refine ⟨b, _, 3, rfl, s6.spr, by omega, by omega, ?_⟩
    intro xs h st7 hxl hxs s7 hh hc7
    have hbh : b < h := by have := s6.spr.lt; omega
    obtain ⟨a, e, d, rfl⟩ : ∃ a e d, xs = [a, e, d] := by
      match xs, hxl with
      | [a, e, d], _ => exact ⟨a, e, d, rfl⟩
    have na := isNm_let (hxs.ok a (by simp))
    have ne := isNm_let (hxs.ok e (by simp))
    have nd := isNm_let (hxs.ok d (by simp))
    have hnd := hxs.nd
    have spr7 := s7.spr
    have hh7 := ltOf hc7
    walk_at "s"
    refine ⟨st7.length, rfl, appN, ?_⟩
    intro st8 f8 hb8 l8
    refine ⟨rfl, ?_⟩
    obtain ⟨B, hB⟩ : ∃ B : BH, B = ⟨st7.length, (st7 ++ [Cell.ins c.Bank []]).length, (st7 ++ [Cell.ins c.Bank []]).length + 1, (st7 ++ [Cell.ins c.Bank []]).length + 2, (st7 ++ [Cell.ins c.Bank []]).length + 3⟩ := ⟨_, rfl⟩
    rw [← hB] at hb8
    have hBb : B.b = st7.length := by rw [hB]
    rw [← hBb]
    have l8' : st8.length = st7.length + 5 := by rw [l8]; simp
    have hfp : ∀ k ∈ B.fp, st7.length < k ∧ k < st7.length + 5 := by
      intro k hk
      rw [hB] at hk
      simp [BH.fp] at hk
      omega
    have g8 : Fx [] st7 st8 := (Fx.refl.app (c := Cell.ins c.Bank [])).far f8 (by intro k hk; simp at hk; omega)
    have hc8 := g8.at hc7 (by simp)
    walk_at "s"
    refine ⟨[a, e, d].map D.str, dIs [x, y, z], dr_hdl hc8, rfl, ?_⟩
    rw [zip_prsI]
    refine lcD_ind (fun ys acc st9 => st9 = st8 ∧ ∃ done left : List D, (prsI ([a, e, d].zip [x, y, z])).map pairD = done ++ left ∧ ys = left ∧ acc = done) ?_ ?_ _ _ _ ⟨rfl, [], _, rfl, rfl, rfl⟩
    case refine_2 =>
      rintro q ys acc st9 K' ⟨rfl, done, left, b1, rfl, rfl⟩ hK'
      refine ⟨⟨dr_hdl hc8, rfl⟩, ?_⟩
      walk_at "s"
      have := congrArg List.length b1
      simp [prsI] at this
      refine ⟨by simp only [sizeLine]; omega, hK' _ _ ⟨rfl, acc ++ [q], ys, by rw [b1]; simp, rfl, rfl⟩⟩
    rintro acc st9 ⟨rfl, done, left, b1, b2, rfl⟩
    subst b2
    rw [List.append_nil] at b1
    subst b1
    refine ⟨⟨dr_hdl hc8, rfl⟩, ?_⟩
    walk_at "s"
    have hnd2 : ((prsI ([a, e, d].zip [x, y, z])).map (·.1)).Nodup := hnd
    refine dSortP_l hnd2 ?_
    intro qs hperm hsort
    obtain ⟨lp, rfl, hlp⟩ := prsI_perm hperm
    have hasc := asc_prsI rfl hperm hsort hnd
    obtain ⟨la, le, ld⟩ := mdl_three hlp hasc
    have md := mdl_prsI lp
    generalize hmv : (lp.map fun p => (p.1, Wo.n p.2)) = mv at hasc la le ld md
    walk_at "s"
    refine ⟨[a, e, d].map D.str, [(Kd.word w).d, (Kd.word v).d, (Kd.word w).d], dr_hdl hc8, rfl, ?_⟩
    refine lcD_ind (fun ys acc st9 => ∃ (done left : List (Str × Nat)) (ids : List Nat) (ts : Ts), [(a, w), (e, v), (d, w)] = done ++ left ∧ ys = left.map (fun p => D.tup [.str p.1, (Kd.word p.2).d]) ∧ acc = dNs ids ∧ NmsIn ts done ids ∧ BankAt c B ts st9 ∧ BankOk ts ∧ Fx [] st7 st9) ?_ ?_ _ _ _ ⟨[], _, [], [], rfl, rfl, rfl, ⟨rfl, Nat.le_refl _, by simp, by simp [ndAt]⟩, hb8, bank0, g8⟩
    case refine_2 =>
      rintro q ys acc st9 K' ⟨done, left, ids, ts, b1, b2, rfl, hin, hb9, ho9, g9⟩ hK'
      cases left with
      | nil => cases b2
      | cons p left =>
      cases b2
      refine ⟨⟨dr_hdl (g9.at hc7 (by simp)), rfl⟩, ?_⟩
      obtain ⟨px, pn⟩ := p
      have hpin : (px, pn) ∈ [(a, w), (e, v), (d, w)] := by rw [b1]; simp
      have hpk : isNm px = true ∧ 1 ≤ pn ∧ pn ≤ 8 := by
        simp at hpin
        rcases hpin with ⟨rfl, rfl⟩ | ⟨rfl, rfl⟩ | ⟨rfl, rfl⟩
        · exact ⟨hxs.ok _ (by simp), by omega, by omega⟩
        · exact ⟨hxs.ok _ (by simp), by omega, by omega⟩
        · exact ⟨hxs.ok _ (by simp), by omega, by omega⟩
      have hlen := congrArg List.length b1
      simp at hlen
      have htl := hin.tl
      refine ttp_i (ds := [.str px, (Kd.word pn).d]) rfl ?_
      walk_at "s"
      refine ⟨hb9.is, ?_⟩
      walk_at "s"
      refine ⟨B, ts, px, (Kd.word pn).d, .word pn, rfl, .inl rfl, hpk.2, hb9, ho9, by omega, hpk.1, ?_, ?_⟩
      · intro i k' e'
        obtain ⟨q, hq, e2⟩ := hin.only i _ e'
        cases e2
        have hdup : (([(a, w), (e, v), (d, w)] : List (Str × Nat)).map (·.1)).Nodup := hnd
        rw [b1, List.map_append, List.nodup_append] at hdup
        exact absurd rfl (hdup.2.2 q.1 (List.mem_map.mpr ⟨q, hq, rfl⟩) q.1 (by simp))
      · intro i ts' st10 e5 hb10 ho10 f10
        have hid := hin.len
        refine ⟨by simp only [List.length_map, sizeLine]; omega, hK' _ _ ⟨done ++ [(px, pn)], left, ids ++ [i], ts', by rw [b1]; simp, rfl, by simp [dNs], hin.snoc e5, hb10, ho10, g9.far f10 fun k hk => Nat.le_of_lt (hfp k hk).1⟩⟩
    rintro acc st9 ⟨done, left, ids, ts, b1, b2, rfl, hin, hb9, ho9, g9⟩
    have hlt : left = [] := by cases left with | nil => rfl | cons _ _ => cases b2
    subst hlt
    rw [List.append_nil] at b1
    subst b1
    refine ⟨⟨dr_hdl (g9.at hc7 (by simp)), rfl⟩, ?_⟩
    have hids := hin.len
    obtain ⟨i1, i2, i3, rfl⟩ : ∃ i1 i2 i3, ids = [i1, i2, i3] := by
      match ids, hids with
      | [i1, i2, i3], _ => exact ⟨i1, i2, i3, rfl⟩
    have n1 := hin.at_ 0 i1 (a, w) rfl rfl
    have n2 := hin.at_ 1 i2 (e, v) rfl rfl
    have n3 := hin.at_ 2 i3 (d, w) rfl rfl
    have htl := hin.tl
    simp at htl
    have mo : MdlOk ts mv := by
      refine ⟨hasc, ?_⟩
      intro p hp
      rw [← hmv] at hp
      obtain ⟨r, hr, rfl⟩ := List.mem_map.mp hp
      have := (hlp r).mp hr
      simp at this
      rcases this with rfl | rfl | rfl
      · exact ⟨na.2.1, Nat.le_trans na.2.2 (by decide), i1, .word w, n1, x0, x1⟩
      · exact ⟨ne.2.1, Nat.le_trans ne.2.2 (by decide), i2, .word v, n2, y0, y1⟩
      · exact ⟨nd.2.1, Nat.le_trans nd.2.2 (by decide), i3, .word w, n3, z0, z1⟩
    have tm1 := tm_nm n1 la
    have tm2 := tm_nm n2 le
    have tm3 := tm_nm n3 ld
    have hlth : st7.length + 5 ≤ st9.length := by
      have := ltOf hb9.called
      have h2 : B.q = st7.length + 4 := by rw [hB]; simp
      omega
    have th9 : (st9 ++ [Cell.lst (dNs [i1, i2, i3])])[st9.length]? = some (.lst (dNs [i1, i2, i3])) := appN
    have hb10 : BankAt c B ts (st9 ++ [Cell.lst (dNs [i1, i2, i3])]) := hb9.fx (F := []) Fx.refl.app (by simp) (by simp)
    have g10 : Fx [] st7 (st9 ++ [Cell.lst (dNs [i1, i2, i3])]) := g9.app
    generalize hth : st9.length = th at th9
    generalize st9 ++ [Cell.lst (dNs [i1, i2, i3])] = st10 at th9 hb10 g10
    have spr10 : Spr st10 b _ := spr7.fx g10 (by simp)
    have nfp : ∀ q, q ≤ st7.length ∨ st7.length + 5 ≤ q → q ∉ B.fp := by
      intro q hq hk
      have := hfp q hk; omega
    walk_at "s"
    refine ⟨b, 3, _, rfl, spr10, by omega, by omega, by omega, ?_⟩
    intro r4 st11 r40 r41 s11 l11
    have hb11 : BankAt c B ts st11 := hb10.fx s11.fx (by simp; have := spr7.lt; omega) (by intro q hk hz; simp at hz; have := hfp q hk; have := spr7.lt; omega)
    have th11 := s11.cell th9 (by have := spr7.lt; omega)
    have spr11 := s11.spr
    walk_at "s"
    by_cases hr4 : r4 = 2
    focus
      refine ifT (by simpa [xorB] using hr4) ?_
      walk_at "s"
      refine ⟨hb11.is, ?_⟩
      walk_at "s"
      refine ixL1 ?_
      walk_at "s"
      refine ⟨rfl, rfl, ?_⟩
      refine ⟨B, ts, "number", .tup (dNs []), .tup (dIs [(v : Int), y]), [], [(v : Int), y], .word v, rfl, hb11, ho9, by omega, .inr (.inl rfl), .inr (.inl rfl), by simp, by simp, by simp, num_kind v1 (by omega) y0 y1, ?_⟩
      intro i4 ts4 st12 e12 hb12 ho12 f12
      obtain ⟨c1, c2, c3⟩ := bput_at e12
      have tmy : TmOk mv ts4 i4 (.word v) (.n y) 1 := tm_num v1 (by omega) y0 y1 c2
      have th12 := f12.at th11 (nfp th (.inr (by omega)))
      have hkF : Keep ts ts4 := c1
      have hlF : ts4.length ≤ 4 := by omega
      walk_at "s"
      refine dSet_l th12 (m := 1) rfl ?_
      have thF : (st12.set th (.lst ((dNs [i1, i2, i3]).set 1 (.int (i4 : Int)))))[th]? = some (.lst (dNs [i1, i4, i3])) := setSame th12
      have gset : Fx [th] st12 (st12.set th (.lst ((dNs [i1, i2, i3]).set 1 (.int (i4 : Int))))) := Fx.refl.set (.inl (by simp))
      have hbF : BankAt c B ts4 (st12.set th (.lst ((dNs [i1, i2, i3]).set 1 (.int (i4 : Int))))) := hb12.fx gset (by simp; omega) (by intro q hk hz; simp at hz; have := hfp q hk; omega)
      have sprF := (spr11.fx f12 (nfp b (.inl (by have := spr7.lt; omega)))).fx gset (by simp; have := spr7.lt; omega)
      have hoF := ho12
      generalize st12.set th (.lst ((dNs [i1, i2, i3]).set 1 (.int (i4 : Int)))) = stF at thF hbF sprF
      clear e12 c1 c2 c3 f12 hb12 ho12 th12 gset
    rotate_left
    focus
      refine ifF (by simpa [xorB] using hr4) ?_
      obtain ⟨i4, e4⟩ : ∃ i, i = i2 := ⟨_, rfl⟩
      obtain ⟨ts4, e5⟩ : ∃ t, t = ts := ⟨_, rfl⟩
      have tmy : TmOk mv ts4 i4 (.word v) (.n y) 1 := by rw [e4, e5]; exact tm2
      have hkF : Keep ts ts4 := by rw [e5]; exact .refl
      have hlF : ts4.length ≤ 4 := by rw [e5]; omega
      have thF : st11[th]? = some (.lst (dNs [i1, i4, i3])) := by rw [e4]; exact th11
      have hbF : BankAt c B ts4 st11 := by rw [e5]; exact hb11
      have sprF := spr11
      have hoF : BankOk ts4 := by rw [e5]; exact ho9
      generalize st11 = stF at thF hbF sprF
      clear e4 e5
    all_goals
      have nb : b ∉ B.fp := nfp b (.inl (by have := spr7.lt; omega))
      have nth : th ∉ B.fp := nfp th (.inr (by omega))
      walk_at "s"
      refine ⟨hbF.is, ?_⟩
      walk_at "s"
      refine dIx_h thF at0 ?_
      walk_at "s"
      refine dIx_h thF at1 ?_
      walk_at "s"
      refine ⟨rfl, rfl, ?_⟩
      refine make_at (w := "join") (ps := [i1, i4]) (ms := []) (mv := mv) (Prts.cons (tm1.keep hkF) (Prts.cons tmy .nil)) (join_kind wv) hbF hoF (by omega) (by simp) (by simp) ?_
      intro i5 ts5 st13 hb13 ho13 hk13 hl13 f13 tm5
      rw [mean_rule (f := mJoinW) rfl] at tm5
      have th13 := f13.at thF nth
      have spr13 := sprF.fx f13 nb
      have k5 : Keep ts ts5 := hkF.trans hk13
      walk_at "s"
      refine ixL0 ?_
      walk_at "s"
      refine ⟨x, w, rfl, by omega, ?_⟩
      walk_at "s"
      refine ixL1 ?_
      walk_at "s"
      refine ⟨y, v, rfl, by omega, ?_⟩
      walk_at "s"
      refine dIx_h th13 at0 ?_
      walk_at "s"
      refine ixL0 ?_
      walk_at "s"
      refine ⟨B, ts5, i1, w, 1, x, _, mv, rfl, hb13, ho13, by omega, w1, by omega, x0, x1, tm1.keep k5, by omega, md, mo.keep k5, ?_⟩
      intro ts6 st14 hb14 ho14 hk14 hl14 f14
      have th14 := f14.at th13 nth
      have spr14 := spr13.fx f14 nb
      have k6 : Keep ts ts6 := k5.trans hk14
      walk_at "s"
      refine dIx_h th14 at1 ?_
      walk_at "s"
      refine ixL1 ?_
      walk_at "s"
      refine ⟨B, ts6, i4, v, 1, y, _, mv, rfl, hb14, ho14, by omega, v1, by omega, y0, y1, tmy.keep (hk13.trans hk14), by omega, md, mo.keep k6, ?_⟩
      intro ts7 st15 hb15 ho15 hk15 hl15 f15
      have th15 := f15.at th14 nth
      have spr15 := spr14.fx f15 nb
      have k7 : Keep ts ts7 := k6.trans hk15
      walk_at "s"
      refine ixL0 ?_
      walk_at "s"
      refine ixL1 ?_
      refine dAddA_l rfl rfl (by simp only [List.length_map, bitL_len, sizeLine]; omega) ?_
      have ej : dIs (bitL x w) ++ dIs (bitL y v) = dIs (bitL (x * 2 ^ v + y) (w + v)) := by rw [bitL_join y0 y1]; simp [dIs]
      rw [ej]
      walk_at "s"
      have jf := join_fit x0 x1 y0 y1
      refine ⟨B, ts7, i5, w + v, 3, x * 2 ^ v + y, _, mv, rfl, hb15, ho15, by omega, by omega, wv, jf.1, jf.2, (tm5.keep (hk14.trans hk15)).mono (by simp), by omega, md, mo.keep k7, ?_⟩
      intro ts8 st16 hb16 ho16 hk16 hl16 f16
      have th16 := f16.at th15 nth
      have spr16 := spr15.fx f16 nb
      have k8 : Keep ts ts8 := k7.trans hk16
      walk_at "s"
      refine dIx_h th16 at0 ?_
      walk_at "s"
      refine dIx_h th16 at2 ?_
      walk_at "s"
      refine ixL0 ?_
      walk_at "s"
      refine ixL2 ?_
      walk_at "s"
      refine ⟨B, ts8, i1, i3, w, 1, x, z, _, mv, rfl, hb16, ho16, by omega, tm1.keep k8, tm3.keep k8, by omega, md, mo.keep k8, ?_⟩
      intro ts9 st17 hb17 ho17 hk17 f17
      have spr17 := spr16.fx f17 nb
      walk_at "s"
      exact hK _ _ ⟨j + 1, lf, _, _, _, _, _, _, _, _, _, _, _, by simp, by omega, spr17.mono (by omega), rfl⟩

theorem FnD.mkF {P : Program} {w : World} {G : Gm} {mg : Str → Option Value} {base : Heap} {x qual : Str} {params : Arguments} {body : List Stmt} {scope : Scope} {dvs : List V} {kws : List (Str × V)} {f : Addr} {fd : FuncData} {N ps : List Str} {k : Nat} {dsp : DSp} {b : MS} (F : FunD G.K x qual params body scope dvs kws f fd) (S : FnScope N ps scope) (len : ∀ ds st R xq, dsp ds st R xq → ds.length = ps.length)
    (der : ∀ (cdv : Value) (A : Around) (outer : List Env) (s : Shared) (H : Hp) (E : XK), Room k (A.deeper (envOfC qual scope s.heap.objs.size f cdv)) → PDSs G E (cxOf CX0 P w G.K mg base N qual scope f cdv A outer s H E).nox body b)
    (sem : ∀ ds st R xq, dsp ds st R xq → b ⟨fun _ st' => R .non st', R, fun _ _ => False, fun _ _ => False, xq⟩ (startD N ds) st) : FnD P w G mg base CX0 (k + 1) f fd ps dsp := by
  unfold FnD
  refine F.ok S (fun vs H Q E h => ?_) (fun cdv A outer s H vs Q E hr h => ⟨_, PSs.nox (der cdv A outer s H E hr), ?_⟩)
  · obtain ⟨W, ds, st, R, xq, rel, rl, hsp, o⟩ := h
    rw [rl.length]; exact len ds st R xq hsp
  · obtain ⟨W, ds, st, R, xq, rel, rl, hsp, o⟩ := h
    exact ⟨W, startD N ds, st, _, rel, start_rp rl, sem ds st R xq hsp, ⟨fun W1 H1 ρ1 σ1 st1 l1 rel1 re1 w1 => o.rt W1 H1 .non .non st1 l1 rel1 rfl w1, fun _ _ _ _ _ _ _ _ z => z.elim, fun _ _ _ _ _ _ _ _ z => z.elim, o.rt, o.xq⟩⟩
theorem sem_of {α : Prop} (h : α) : α := h
theorem fntwo_to {P : Program} {w : World} {G : Gm} {mg : Str → Option Value} {base : Heap} {c : Cl} (hW : G.w = w) (B : Bl mg) (T : ClD G mg c)  {f : Addr} {fd : FuncData} (F : Fun G.K "two_to" "two_to" sttwo_to f fd) : FnD P w G mg base CX0 1 f fd ["bits"] (sptwo_to c) := by
  refine FnD.mk F sctwo_to ?_ (fun cdv A outer s H E hr => detwo_to hW B T  cdv A outer s H E hr) (sem_of (sem_two_to c))
  intro ds st R xq h
  unfold sptwo_to at h
  repeat (first | (obtain ⟨rfl, _⟩ := h; rfl) | (obtain ⟨_, h⟩ := h))
theorem fnas_signed {P : Program} {w : World} {G : Gm} {mg : Str → Option Value} {base : Heap} {c : Cl} (hW : G.w = w) (B : Bl mg) (T : ClD G mg c) (Ftwo_to : Cal P w G mg base 1 "two_to" (sptwo_to c)) {f : Addr} {fd : FuncData} (F : Fun G.K "as_signed" "as_signed" stas_signed f fd) : FnD P w G mg base CX0 2 f fd ["width", "number"] (spas_signed c) := by
  refine FnD.mk F scas_signed ?_ (fun cdv A outer s H E hr => deas_signed hW B T Ftwo_to cdv A outer s H E hr) (sem_of (sem_as_signed c))
  intro ds st R xq h
  unfold spas_signed at h
  repeat (first | (obtain ⟨rfl, _⟩ := h; rfl) | (obtain ⟨_, h⟩ := h))
theorem fndiv_of {P : Program} {w : World} {G : Gm} {mg : Str → Option Value} {base : Heap} {c : Cl} (hW : G.w = w) (B : Bl mg) (T : ClD G mg c) (Ftwo_to : Cal P w G mg base 1 "two_to" (sptwo_to c)) {f : Addr} {fd : FuncData} (F : Fun G.K "div_of" "div_of" stdiv_of f fd) : FnD P w G mg base CX0 2 f fd ["width", "one", "other"] (spdiv_of c) := by
  refine FnD.mk F scdiv_of ?_ (fun cdv A outer s H E hr => dediv_of hW B T Ftwo_to cdv A outer s H E hr) (sem_of (sem_div_of c))
  intro ds st R xq h
  unfold spdiv_of at h
  repeat (first | (obtain ⟨rfl, _⟩ := h; rfl) | (obtain ⟨_, h⟩ := h))
theorem fnrest_of {P : Program} {w : World} {G : Gm} {mg : Str → Option Value} {base : Heap} {c : Cl} (hW : G.w = w) (B : Bl mg) (T : ClD G mg c)  {f : Addr} {fd : FuncData} (F : Fun G.K "rest_of" "rest_of" strest_of f fd) : FnD P w G mg base CX0 1 f fd ["width", "one", "other"] (sprest_of c) := by
  refine FnD.mk F screst_of ?_ (fun cdv A outer s H E hr => derest_of hW B T  cdv A outer s H E hr) (sem_of (sem_rest_of c))
  intro ds st R xq h
  unfold sprest_of at h
  repeat (first | (obtain ⟨rfl, _⟩ := h; rfl) | (obtain ⟨_, h⟩ := h))
theorem fnshl_of {P : Program} {w : World} {G : Gm} {mg : Str → Option Value} {base : Heap} {c : Cl} (hW : G.w = w) (B : Bl mg) (T : ClD G mg c) (Ftwo_to : Cal P w G mg base 1 "two_to" (sptwo_to c)) {f : Addr} {fd : FuncData} (F : Fun G.K "shl_of" "shl_of" stshl_of f fd) : FnD P w G mg base CX0 2 f fd ["width", "one", "other"] (spshl_of c) := by
  refine FnD.mk F scshl_of ?_ (fun cdv A outer s H E hr => deshl_of hW B T Ftwo_to cdv A outer s H E hr) (sem_of (sem_shl_of c))
  intro ds st R xq h
  unfold spshl_of at h
  repeat (first | (obtain ⟨rfl, _⟩ := h; rfl) | (obtain ⟨_, h⟩ := h))
theorem fnsar_of {P : Program} {w : World} {G : Gm} {mg : Str → Option Value} {base : Heap} {c : Cl} (hW : G.w = w) (B : Bl mg) (T : ClD G mg c) (Fas_signed : Cal P w G mg base 2 "as_signed" (spas_signed c)) (Ftwo_to : Cal P w G mg base 1 "two_to" (sptwo_to c)) {f : Addr} {fd : FuncData} (F : Fun G.K "sar_of" "sar_of" stsar_of f fd) : FnD P w G mg base CX0 3 f fd ["width", "one", "other"] (spsar_of c) := by
  refine FnD.mk F scsar_of ?_ (fun cdv A outer s H E hr => desar_of hW B T Fas_signed Ftwo_to cdv A outer s H E hr) (sem_of (sem_sar_of c))
  intro ds st R xq h
  unfold spsar_of at h
  repeat (first | (obtain ⟨rfl, _⟩ := h; rfl) | (obtain ⟨_, h⟩ := h))
theorem fnshr_of {P : Program} {w : World} {G : Gm} {mg : Str → Option Value} {base : Heap} {c : Cl} (hW : G.w = w) (B : Bl mg) (T : ClD G mg c)  {f : Addr} {fd : FuncData} (F : Fun G.K "shr_of" "shr_of" stshr_of f fd) : FnD P w G mg base CX0 1 f fd ["width", "one", "other"] (spshr_of c) := by
  refine FnD.mk F scshr_of ?_ (fun cdv A outer s H E hr => deshr_of hW B T  cdv A outer s H E hr) (sem_of (sem_shr_of c))
  intro ds st R xq h
  unfold spshr_of at h
  repeat (first | (obtain ⟨rfl, _⟩ := h; rfl) | (obtain ⟨_, h⟩ := h))
theorem fnband_of {P : Program} {w : World} {G : Gm} {mg : Str → Option Value} {base : Heap} {c : Cl} (hW : G.w = w) (B : Bl mg) (T : ClD G mg c)  {f : Addr} {fd : FuncData} (F : Fun G.K "band_of" "band_of" stband_of f fd) : FnD P w G mg base CX0 1 f fd ["width", "one", "other"] (spband_of c) := by
  refine FnD.mk F scband_of ?_ (fun cdv A outer s H E hr => deband_of hW B T  cdv A outer s H E hr) (sem_of (sem_band_of c))
  intro ds st R xq h
  unfold spband_of at h
  repeat (first | (obtain ⟨rfl, _⟩ := h; rfl) | (obtain ⟨_, h⟩ := h))
theorem fnbor_of {P : Program} {w : World} {G : Gm} {mg : Str → Option Value} {base : Heap} {c : Cl} (hW : G.w = w) (B : Bl mg) (T : ClD G mg c)  {f : Addr} {fd : FuncData} (F : Fun G.K "bor_of" "bor_of" stbor_of f fd) : FnD P w G mg base CX0 1 f fd ["width", "one", "other"] (spbor_of c) := by
  refine FnD.mk F scbor_of ?_ (fun cdv A outer s H E hr => debor_of hW B T  cdv A outer s H E hr) (sem_of (sem_bor_of c))
  intro ds st R xq h
  unfold spbor_of at h
  repeat (first | (obtain ⟨rfl, _⟩ := h; rfl) | (obtain ⟨_, h⟩ := h))
theorem fnbxor_of {P : Program} {w : World} {G : Gm} {mg : Str → Option Value} {base : Heap} {c : Cl} (hW : G.w = w) (B : Bl mg) (T : ClD G mg c)  {f : Addr} {fd : FuncData} (F : Fun G.K "bxor_of" "bxor_of" stbxor_of f fd) : FnD P w G mg base CX0 1 f fd ["width", "one", "other"] (spbxor_of c) := by
  refine FnD.mk F scbxor_of ?_ (fun cdv A outer s H E hr => debxor_of hW B T  cdv A outer s H E hr) (sem_of (sem_bxor_of c))
  intro ds st R xq h
  unfold spbxor_of at h
  repeat (first | (obtain ⟨rfl, _⟩ := h; rfl) | (obtain ⟨_, h⟩ := h))
theorem fnadd_of {P : Program} {w : World} {G : Gm} {mg : Str → Option Value} {base : Heap} {c : Cl} (hW : G.w = w) (B : Bl mg) (T : ClD G mg c) (Ftwo_to : Cal P w G mg base 1 "two_to" (sptwo_to c)) {f : Addr} {fd : FuncData} (F : Fun G.K "add_of" "add_of" stadd_of f fd) : FnD P w G mg base CX0 2 f fd ["width", "one", "other"] (spadd_of c) := by
  refine FnD.mk F scadd_of ?_ (fun cdv A outer s H E hr => deadd_of hW B T Ftwo_to cdv A outer s H E hr) (sem_of (sem_add_of c))
  intro ds st R xq h
  unfold spadd_of at h
  repeat (first | (obtain ⟨rfl, _⟩ := h; rfl) | (obtain ⟨_, h⟩ := h))
theorem fnsub_of {P : Program} {w : World} {G : Gm} {mg : Str → Option Value} {base : Heap} {c : Cl} (hW : G.w = w) (B : Bl mg) (T : ClD G mg c) (Ftwo_to : Cal P w G mg base 1 "two_to" (sptwo_to c)) {f : Addr} {fd : FuncData} (F : Fun G.K "sub_of" "sub_of" stsub_of f fd) : FnD P w G mg base CX0 2 f fd ["width", "one", "other"] (spsub_of c) := by
  refine FnD.mk F scsub_of ?_ (fun cdv A outer s H E hr => desub_of hW B T Ftwo_to cdv A outer s H E hr) (sem_of (sem_sub_of c))
  intro ds st R xq h
  unfold spsub_of at h
  repeat (first | (obtain ⟨rfl, _⟩ := h; rfl) | (obtain ⟨_, h⟩ := h))
theorem fnmul_of {P : Program} {w : World} {G : Gm} {mg : Str → Option Value} {base : Heap} {c : Cl} (hW : G.w = w) (B : Bl mg) (T : ClD G mg c) (Ftwo_to : Cal P w G mg base 1 "two_to" (sptwo_to c)) {f : Addr} {fd : FuncData} (F : Fun G.K "mul_of" "mul_of" stmul_of f fd) : FnD P w G mg base CX0 2 f fd ["width", "one", "other"] (spmul_of c) := by
  refine FnD.mk F scmul_of ?_ (fun cdv A outer s H E hr => demul_of hW B T Ftwo_to cdv A outer s H E hr) (sem_of (sem_mul_of c))
  intro ds st R xq h
  unfold spmul_of at h
  repeat (first | (obtain ⟨rfl, _⟩ := h; rfl) | (obtain ⟨_, h⟩ := h))
theorem fnless_of {P : Program} {w : World} {G : Gm} {mg : Str → Option Value} {base : Heap} {c : Cl} (hW : G.w = w) (B : Bl mg) (T : ClD G mg c)  {f : Addr} {fd : FuncData} (F : Fun G.K "less_of" "less_of" stless_of f fd) : FnD P w G mg base CX0 1 f fd ["width", "one", "other"] (spless_of c) := by
  refine FnD.mk F scless_of ?_ (fun cdv A outer s H E hr => deless_of hW B T  cdv A outer s H E hr) (sem_of (sem_less_of c))
  intro ds st R xq h
  unfold spless_of at h
  repeat (first | (obtain ⟨rfl, _⟩ := h; rfl) | (obtain ⟨_, h⟩ := h))
theorem fnsless_of {P : Program} {w : World} {G : Gm} {mg : Str → Option Value} {base : Heap} {c : Cl} (hW : G.w = w) (B : Bl mg) (T : ClD G mg c) (Fas_signed : Cal P w G mg base 2 "as_signed" (spas_signed c)) {f : Addr} {fd : FuncData} (F : Fun G.K "sless_of" "sless_of" stsless_of f fd) : FnD P w G mg base CX0 3 f fd ["width", "one", "other"] (spsless_of c) := by
  refine FnD.mk F scsless_of ?_ (fun cdv A outer s H E hr => desless_of hW B T Fas_signed cdv A outer s H E hr) (sem_of (sem_sless_of c))
  intro ds st R xq h
  unfold spsless_of at h
  repeat (first | (obtain ⟨rfl, _⟩ := h; rfl) | (obtain ⟨_, h⟩ := h))
theorem fnmoved_worth {P : Program} {w : World} {G : Gm} {mg : Str → Option Value} {base : Heap} {c : Cl} (hW : G.w = w) (B : Bl mg) (T : ClD G mg c) (Ftwo_to : Cal P w G mg base 1 "two_to" (sptwo_to c)) {f : Addr} {fd : FuncData} (F : Fun G.K "moved_worth" "moved_worth" stmoved_worth f fd) : FnD P w G mg base CX0 2 f fd ["word", "marks", "kinds", "some"] (spmoved_worth c) := by
  refine FnD.mk F scmoved_worth ?_ (fun cdv A outer s H E hr => demoved_worth hW B T Ftwo_to cdv A outer s H E hr) (sem_of (sem_moved_worth c))
  intro ds st R xq h
  unfold spmoved_worth at h
  repeat (first | (obtain ⟨rfl, _⟩ := h; rfl) | (obtain ⟨_, h⟩ := h))
theorem fnworth_by {P : Program} {w : World} {G : Gm} {mg : Str → Option Value} {base : Heap} {c : Cl} (hW : G.w = w) (B : Bl mg) (T : ClD G mg c) (Ftwo_to : Cal P w G mg base 1 "two_to" (sptwo_to c)) (Fmoved_worth : Cal P w G mg base 2 "moved_worth" (spmoved_worth c)) (APAIRS : ∀ q ∈ cbPAIRS c, CalT P w G mg base 3 q.1 q.2) {f : Addr} {fd : FuncData} (F : Fun G.K "worth_by" "worth_by" stworth_by f fd) : FnD P w G mg base CX0 4 f fd ["word", "marks", "kinds", "some"] (spworth_by c) := by
  refine FnD.mk F scworth_by ?_ (fun cdv A outer s H E hr => deworth_by hW B T Ftwo_to Fmoved_worth APAIRS cdv A outer s H E hr) (sem_of (sem_worth_by c))
  intro ds st R xq h
  unfold spworth_by at h
  repeat (first | (obtain ⟨rfl, _⟩ := h; rfl) | (obtain ⟨_, h⟩ := h))
theorem fnplain_worth {P : Program} {w : World} {G : Gm} {mg : Str → Option Value} {base : Heap} {c : Cl} (hW : G.w = w) (B : Bl mg) (T : ClD G mg c) (Ftwo_to : Cal P w G mg base 1 "two_to" (sptwo_to c)) {f : Addr} {fd : FuncData} (F : Fun G.K "plain_worth" "plain_worth" stplain_worth f fd) : FnD P w G mg base CX0 2 f fd ["kind"] (spplain_worth c) := by
  refine FnD.mk F scplain_worth ?_ (fun cdv A outer s H E hr => deplain_worth hW B T Ftwo_to cdv A outer s H E hr) (sem_of (sem_plain_worth c))
  intro ds st R xq h
  unfold spplain_worth at h
  repeat (first | (obtain ⟨rfl, _⟩ := h; rfl) | (obtain ⟨_, h⟩ := h))
theorem fnis_number {P : Program} {w : World} {G : Gm} {mg : Str → Option Value} {base : Heap} {c : Cl} (hW : G.w = w) (B : Bl mg) (T : ClD G mg c) (Ftwo_to : Cal P w G mg base 1 "two_to" (sptwo_to c)) {f : Addr} {fd : FuncData} (F : Fun G.K "is_number" "is_number" stis_number f fd) : FnD P w G mg base CX0 2 f fd ["thing", "bits"] (spis_number c) := by
  refine FnD.mk F scis_number ?_ (fun cdv A outer s H E hr => deis_number hW B T Ftwo_to cdv A outer s H E hr) (sem_of (sem_is_number c))
  intro ds st R xq h
  unfold spis_number at h
  repeat (first | (obtain ⟨rfl, _⟩ := h; rfl) | (obtain ⟨_, h⟩ := h))
theorem fnis_worth {P : Program} {w : World} {G : Gm} {mg : Str → Option Value} {base : Heap} {c : Cl} (hW : G.w = w) (B : Bl mg) (T : ClD G mg c) (Fis_number : Cal P w G mg base 2 "is_number" (spis_number c)) (Ftwo_to : Cal P w G mg base 1 "two_to" (sptwo_to c)) {f : Addr} {fd : FuncData} (F : Fun G.K "is_worth" "is_worth" stis_worth f fd) : FnD P w G mg base CX0 3 f fd ["thing", "kind"] (spis_worth c) := by
  refine FnD.mk F scis_worth ?_ (fun cdv A outer s H E hr => deis_worth hW B T Fis_number Ftwo_to cdv A outer s H E hr) (sem_of (sem_is_worth c))
  intro ds st R xq h
  unfold spis_worth at h
  repeat (first | (obtain ⟨rfl, _⟩ := h; rfl) | (obtain ⟨_, h⟩ := h))
theorem fnis_whole {P : Program} {w : World} {G : Gm} {mg : Str → Option Value} {base : Heap} {c : Cl} (hW : G.w = w) (B : Bl mg) (T : ClD G mg c)  {f : Addr} {fd : FuncData} (F : Fun G.K "is_whole" "is_whole" stis_whole f fd) : FnD P w G mg base CX0 1 f fd ["thing", "least", "most"] (spis_whole c) := by
  refine FnD.mk F scis_whole ?_ (fun cdv A outer s H E hr => deis_whole hW B T  cdv A outer s H E hr) (sem_of (sem_is_whole c))
  intro ds st R xq h
  unfold spis_whole at h
  repeat (first | (obtain ⟨rfl, _⟩ := h; rfl) | (obtain ⟨_, h⟩ := h))
theorem fnas_kind {P : Program} {w : World} {G : Gm} {mg : Str → Option Value} {base : Heap} {c : Cl} (hW : G.w = w) (B : Bl mg) (T : ClD G mg c) (Fis_whole : Cal P w G mg base 1 "is_whole" (spis_whole c)) {f : Addr} {fd : FuncData} (F : Fun G.K "as_kind" "as_kind" stas_kind f fd) : FnD P w G mg base CX0 2 f fd ["thing"] (spas_kind c) := by
  refine FnD.mk F scas_kind ?_ (fun cdv A outer s H E hr => deas_kind hW B T Fis_whole cdv A outer s H E hr) (sem_of (sem_as_kind c))
  intro ds st R xq h
  unfold spas_kind at h
  repeat (first | (obtain ⟨rfl, _⟩ := h; rfl) | (obtain ⟨_, h⟩ := h))
theorem fnof_nothing {P : Program} {w : World} {G : Gm} {mg : Str → Option Value} {base : Heap} {c : Cl} (hW : G.w = w) (B : Bl mg) (T : ClD G mg c)  {f : Addr} {fd : FuncData} (F : Fun G.K "of_nothing" "of_nothing" stof_nothing f fd) : FnD P w G mg base CX0 1 f fd ["kinds", "marks"] (spof_nothing c) := by
  refine FnD.mk F scof_nothing ?_ (fun cdv A outer s H E hr => deof_nothing hW B T  cdv A outer s H E hr) (sem_of (sem_of_nothing c))
  intro ds st R xq h
  unfold spof_nothing at h
  repeat (first | (obtain ⟨rfl, _⟩ := h; rfl) | (obtain ⟨_, h⟩ := h))
theorem fnof_marks {P : Program} {w : World} {G : Gm} {mg : Str → Option Value} {base : Heap} {c : Cl} (hW : G.w = w) (B : Bl mg) (T : ClD G mg c) (Fis_whole : Cal P w G mg base 1 "is_whole" (spis_whole c)) {f : Addr} {fd : FuncData} (F : Fun G.K "of_marks" "of_marks" stof_marks f fd) : FnD P w G mg base CX0 2 f fd ["kinds", "marks"] (spof_marks c) := by
  refine FnD.mk F scof_marks ?_ (fun cdv A outer s H E hr => deof_marks hW B T Fis_whole cdv A outer s H E hr) (sem_of (sem_of_marks c))
  intro ds st R xq h
  unfold spof_marks at h
  repeat (first | (obtain ⟨rfl, _⟩ := h; rfl) | (obtain ⟨_, h⟩ := h))
theorem fnof_truth {P : Program} {w : World} {G : Gm} {mg : Str → Option Value} {base : Heap} {c : Cl} (hW : G.w = w) (B : Bl mg) (T : ClD G mg c)  {f : Addr} {fd : FuncData} (F : Fun G.K "of_truth" "of_truth" stof_truth f fd) : FnD P w G mg base CX0 1 f fd ["kinds", "marks"] (spof_truth c) := by
  refine FnD.mk F scof_truth ?_ (fun cdv A outer s H E hr => deof_truth hW B T  cdv A outer s H E hr) (sem_of (sem_of_truth c))
  intro ds st R xq h
  unfold spof_truth at h
  repeat (first | (obtain ⟨rfl, _⟩ := h; rfl) | (obtain ⟨_, h⟩ := h))
theorem fnof_truths {P : Program} {w : World} {G : Gm} {mg : Str → Option Value} {base : Heap} {c : Cl} (hW : G.w = w) (B : Bl mg) (T : ClD G mg c)  {f : Addr} {fd : FuncData} (F : Fun G.K "of_truths" "of_truths" stof_truths f fd) : FnD P w G mg base CX0 1 f fd ["kinds", "marks"] (spof_truths c) := by
  refine FnD.mk F scof_truths ?_ (fun cdv A outer s H E hr => deof_truths hW B T  cdv A outer s H E hr) (sem_of (sem_of_truths c))
  intro ds st R xq h
  unfold spof_truths at h
  repeat (first | (obtain ⟨rfl, _⟩ := h; rfl) | (obtain ⟨_, h⟩ := h))
theorem fnof_alike {P : Program} {w : World} {G : Gm} {mg : Str → Option Value} {base : Heap} {c : Cl} (hW : G.w = w) (B : Bl mg) (T : ClD G mg c)  {f : Addr} {fd : FuncData} (F : Fun G.K "of_alike" "of_alike" stof_alike f fd) : FnD P w G mg base CX0 1 f fd ["kinds", "marks"] (spof_alike c) := by
  refine FnD.mk F scof_alike ?_ (fun cdv A outer s H E hr => deof_alike hW B T  cdv A outer s H E hr) (sem_of (sem_of_alike c))
  intro ds st R xq h
  unfold spof_alike at h
  repeat (first | (obtain ⟨rfl, _⟩ := h; rfl) | (obtain ⟨_, h⟩ := h))
theorem fnof_words {P : Program} {w : World} {G : Gm} {mg : Str → Option Value} {base : Heap} {c : Cl} (hW : G.w = w) (B : Bl mg) (T : ClD G mg c) (Fof_alike : Cal P w G mg base 1 "of_alike" (spof_alike c)) {f : Addr} {fd : FuncData} (F : Fun G.K "of_words" "of_words" stof_words f fd) : FnD P w G mg base CX0 2 f fd ["kinds", "marks"] (spof_words c) := by
  refine FnD.mk F scof_words ?_ (fun cdv A outer s H E hr => deof_words hW B T Fof_alike cdv A outer s H E hr) (sem_of (sem_of_words c))
  intro ds st R xq h
  unfold spof_words at h
  repeat (first | (obtain ⟨rfl, _⟩ := h; rfl) | (obtain ⟨_, h⟩ := h))
theorem fnof_less {P : Program} {w : World} {G : Gm} {mg : Str → Option Value} {base : Heap} {c : Cl} (hW : G.w = w) (B : Bl mg) (T : ClD G mg c) (Fof_words : Cal P w G mg base 2 "of_words" (spof_words c)) {f : Addr} {fd : FuncData} (F : Fun G.K "of_less" "of_less" stof_less f fd) : FnD P w G mg base CX0 3 f fd ["kinds", "marks"] (spof_less c) := by
  refine FnD.mk F scof_less ?_ (fun cdv A outer s H E hr => deof_less hW B T Fof_words cdv A outer s H E hr) (sem_of (sem_of_less c))
  intro ds st R xq h
  unfold spof_less at h
  repeat (first | (obtain ⟨rfl, _⟩ := h; rfl) | (obtain ⟨_, h⟩ := h))
theorem fnof_choice {P : Program} {w : World} {G : Gm} {mg : Str → Option Value} {base : Heap} {c : Cl} (hW : G.w = w) (B : Bl mg) (T : ClD G mg c) (Fof_alike : Cal P w G mg base 1 "of_alike" (spof_alike c)) {f : Addr} {fd : FuncData} (F : Fun G.K "of_choice" "of_choice" stof_choice f fd) : FnD P w G mg base CX0 2 f fd ["kinds", "marks"] (spof_choice c) := by
  refine FnD.mk F scof_choice ?_ (fun cdv A outer s H E hr => deof_choice hW B T Fof_alike cdv A outer s H E hr) (sem_of (sem_of_choice c))
  intro ds st R xq h
  unfold spof_choice at h
  repeat (first | (obtain ⟨rfl, _⟩ := h; rfl) | (obtain ⟨_, h⟩ := h))
theorem fnof_word {P : Program} {w : World} {G : Gm} {mg : Str → Option Value} {base : Heap} {c : Cl} (hW : G.w = w) (B : Bl mg) (T : ClD G mg c)  {f : Addr} {fd : FuncData} (F : Fun G.K "of_word" "of_word" stof_word f fd) : FnD P w G mg base CX0 1 f fd ["kinds", "marks"] (spof_word c) := by
  refine FnD.mk F scof_word ?_ (fun cdv A outer s H E hr => deof_word hW B T  cdv A outer s H E hr) (sem_of (sem_of_word c))
  intro ds st R xq h
  unfold spof_word at h
  repeat (first | (obtain ⟨rfl, _⟩ := h; rfl) | (obtain ⟨_, h⟩ := h))
theorem fnof_joined {P : Program} {w : World} {G : Gm} {mg : Str → Option Value} {base : Heap} {c : Cl} (hW : G.w = w) (B : Bl mg) (T : ClD G mg c)  {f : Addr} {fd : FuncData} (F : Fun G.K "of_joined" "of_joined" stof_joined f fd) : FnD P w G mg base CX0 1 f fd ["kinds", "marks"] (spof_joined c) := by
  refine FnD.mk F scof_joined ?_ (fun cdv A outer s H E hr => deof_joined hW B T  cdv A outer s H E hr) (sem_of (sem_of_joined c))
  intro ds st R xq h
  unfold spof_joined at h
  repeat (first | (obtain ⟨rfl, _⟩ := h; rfl) | (obtain ⟨_, h⟩ := h))
theorem fnof_cut {P : Program} {w : World} {G : Gm} {mg : Str → Option Value} {base : Heap} {c : Cl} (hW : G.w = w) (B : Bl mg) (T : ClD G mg c) (Fof_word : Cal P w G mg base 1 "of_word" (spof_word c)) (Fis_whole : Cal P w G mg base 1 "is_whole" (spis_whole c)) {f : Addr} {fd : FuncData} (F : Fun G.K "of_cut" "of_cut" stof_cut f fd) : FnD P w G mg base CX0 2 f fd ["kinds", "marks"] (spof_cut c) := by
  refine FnD.mk F scof_cut ?_ (fun cdv A outer s H E hr => deof_cut hW B T Fof_word Fis_whole cdv A outer s H E hr) (sem_of (sem_of_cut c))
  intro ds st R xq h
  unfold spof_cut at h
  repeat (first | (obtain ⟨rfl, _⟩ := h; rfl) | (obtain ⟨_, h⟩ := h))
theorem fnof_read {P : Program} {w : World} {G : Gm} {mg : Str → Option Value} {base : Heap} {c : Cl} (hW : G.w = w) (B : Bl mg) (T : ClD G mg c)  {f : Addr} {fd : FuncData} (F : Fun G.K "of_read" "of_read" stof_read f fd) : FnD P w G mg base CX0 1 f fd ["kinds", "marks"] (spof_read c) := by
  refine FnD.mk F scof_read ?_ (fun cdv A outer s H E hr => deof_read hW B T  cdv A outer s H E hr) (sem_of (sem_of_read c))
  intro ds st R xq h
  unfold spof_read at h
  repeat (first | (obtain ⟨rfl, _⟩ := h; rfl) | (obtain ⟨_, h⟩ := h))
theorem fnof_written {P : Program} {w : World} {G : Gm} {mg : Str → Option Value} {base : Heap} {c : Cl} (hW : G.w = w) (B : Bl mg) (T : ClD G mg c) (Fof_read : Cal P w G mg base 1 "of_read" (spof_read c)) {f : Addr} {fd : FuncData} (F : Fun G.K "of_written" "of_written" stof_written f fd) : FnD P w G mg base CX0 2 f fd ["kinds", "marks"] (spof_written c) := by
  refine FnD.mk F scof_written ?_ (fun cdv A outer s H E hr => deof_written hW B T Fof_read cdv A outer s H E hr) (sem_of (sem_of_written c))
  intro ds st R xq h
  unfold spof_written at h
  repeat (first | (obtain ⟨rfl, _⟩ := h; rfl) | (obtain ⟨_, h⟩ := h))
theorem fnkind_by {P : Program} {w : World} {G : Gm} {mg : Str → Option Value} {base : Heap} {c : Cl} (hW : G.w = w) (B : Bl mg) (T : ClD G mg c) (ARULES : ∀ q ∈ cbRULES c, CalT P w G mg base 3 q.1 q.2) {f : Addr} {fd : FuncData} (F : Fun G.K "kind_by" "kind_by" stkind_by f fd) : FnD P w G mg base CX0 4 f fd ["word", "kinds", "marks"] (spkind_by c) := by
  refine FnD.mk F sckind_by ?_ (fun cdv A outer s H E hr => dekind_by hW B T ARULES cdv A outer s H E hr) (sem_of (sem_kind_by c))
  intro ds st R xq h
  unfold spkind_by at h
  repeat (first | (obtain ⟨rfl, _⟩ := h; rfl) | (obtain ⟨_, h⟩ := h))
theorem fnis_name {P : Program} {w : World} {G : Gm} {mg : Str → Option Value} {base : Heap} {c : Cl} (hW : G.w = w) (B : Bl mg) (T : ClD G mg c)  {f : Addr} {fd : FuncData} (F : Fun G.K "is_name" "is_name" stis_name f fd) : FnD P w G mg base CX0 1 f fd ["text"] (spis_name c) := by
  refine FnD.mk F scis_name ?_ (fun cdv A outer s H E hr => deis_name hW B T  cdv A outer s H E hr) (sem_of (sem_is_name c))
  intro ds st R xq h
  unfold spis_name at h
  repeat (first | (obtain ⟨rfl, _⟩ := h; rfl) | (obtain ⟨_, h⟩ := h))
theorem fnneed_term {P : Program} {w : World} {G : Gm} {mg : Str → Option Value} {base : Heap} {c : Cl} (hW : G.w = w) (B : Bl mg) (T : ClD G mg c) (Fis_whole : Cal P w G mg base 1 "is_whole" (spis_whole c)) {f : Addr} {fd : FuncData} (F : Fun G.K "need_term" "need_term" stneed_term f fd) : FnD P w G mg base CX0 2 f fd ["bank", "term"] (spneed_term c) := by
  refine FnD.mk F scneed_term ?_ (fun cdv A outer s H E hr => deneed_term hW B T Fis_whole cdv A outer s H E hr) (sem_of (sem_need_term c))
  intro ds st R xq h
  unfold spneed_term at h
  repeat (first | (obtain ⟨rfl, _⟩ := h; rfl) | (obtain ⟨_, h⟩ := h))
theorem fnput_in {P : Program} {w : World} {G : Gm} {mg : Str → Option Value} {base : Heap} {c : Cl} (hW : G.w = w) (B : Bl mg) (T : ClD G mg c)  {f : Addr} {fd : FuncData} (F : Fun G.K "put_in" "put_in" stput_in f fd) : FnD P w G mg base CX0 1 f fd ["bank", "made", "sort"] (spput_in c) := by
  refine FnD.mk F scput_in ?_ (fun cdv A outer s H E hr => deput_in hW B T  cdv A outer s H E hr) (sem_of (sem_put_in c))
  intro ds st R xq h
  unfold spput_in at h
  repeat (first | (obtain ⟨rfl, _⟩ := h; rfl) | (obtain ⟨_, h⟩ := h))
theorem fnBank_DinitD {P : Program} {w : World} {G : Gm} {mg : Str → Option Value} {base : Heap} {c : Cl} (hW : G.w = w) (B : Bl mg) (T : ClD G mg c)  {f : Addr} {fd : FuncData} (F : Fun G.K "__init__" "Bank.__init__" stBank_DinitD f fd) : FnD P w G mg base CX0 1 f fd ["self"] (spBank_DinitD c) := by
  refine FnD.mk F scBank_DinitD ?_ (fun cdv A outer s H E hr => deBank_DinitD hW B T  cdv A outer s H E hr) (sem_of (sem_Bank_DinitD c))
  intro ds st R xq h
  unfold spBank_DinitD at h
  repeat (first | (obtain ⟨rfl, _⟩ := h; rfl) | (obtain ⟨_, h⟩ := h))
theorem fnBank_make {P : Program} {w : World} {G : Gm} {mg : Str → Option Value} {base : Heap} {c : Cl} (hW : G.w = w) (B : Bl mg) (T : ClD G mg c) (Fneed_term : Cal P w G mg base 2 "need_term" (spneed_term c)) (Fkind_by : Cal P w G mg base 4 "kind_by" (spkind_by c)) (Fput_in : Cal P w G mg base 1 "put_in" (spput_in c)) {f : Addr} {fd : FuncData} {dvs : List V} {kws : List (Str × V)} (F : FunD G.K "make" "Bank.make" (defArgs stBank_make) (defBody stBank_make) (defScope stBank_make) dvs kws f fd) : FnD P w G mg base CX0 5 f fd ["self", "word", "parts", "marks"] (spBank_make c) := by
  refine FnD.mkF F scBank_make ?_ (fun cdv A outer s H E hr => deBank_make hW B T Fneed_term Fkind_by Fput_in cdv A outer s H E hr) (sem_of (sem_Bank_make c))
  intro ds st R xq h
  unfold spBank_make at h
  repeat (first | (obtain ⟨rfl, _⟩ := h; rfl) | (obtain ⟨_, h⟩ := h))
theorem fnBank_name {P : Program} {w : World} {G : Gm} {mg : Str → Option Value} {base : Heap} {c : Cl} (hW : G.w = w) (B : Bl mg) (T : ClD G mg c) (Fas_kind : Cal P w G mg base 2 "as_kind" (spas_kind c)) (Fis_name : Cal P w G mg base 1 "is_name" (spis_name c)) (Fput_in : Cal P w G mg base 1 "put_in" (spput_in c)) {f : Addr} {fd : FuncData} (F : Fun G.K "name" "Bank.name" stBank_name f fd) : FnD P w G mg base CX0 3 f fd ["self", "text", "kind"] (spBank_name c) := by
  refine FnD.mk F scBank_name ?_ (fun cdv A outer s H E hr => deBank_name hW B T Fas_kind Fis_name Fput_in cdv A outer s H E hr) (sem_of (sem_Bank_name c))
  intro ds st R xq h
  unfold spBank_name at h
  repeat (first | (obtain ⟨rfl, _⟩ := h; rfl) | (obtain ⟨_, h⟩ := h))
theorem fnBank_kind {P : Program} {w : World} {G : Gm} {mg : Str → Option Value} {base : Heap} {c : Cl} (hW : G.w = w) (B : Bl mg) (T : ClD G mg c) (Fneed_term : Cal P w G mg base 2 "need_term" (spneed_term c)) {f : Addr} {fd : FuncData} (F : Fun G.K "kind" "Bank.kind" stBank_kind f fd) : FnD P w G mg base CX0 3 f fd ["self", "term"] (spBank_kind c) := by
  refine FnD.mk F scBank_kind ?_ (fun cdv A outer s H E hr => deBank_kind hW B T Fneed_term cdv A outer s H E hr) (sem_of (sem_Bank_kind c))
  intro ds st R xq h
  unfold spBank_kind at h
  repeat (first | (obtain ⟨rfl, _⟩ := h; rfl) | (obtain ⟨_, h⟩ := h))
theorem fnBank_node {P : Program} {w : World} {G : Gm} {mg : Str → Option Value} {base : Heap} {c : Cl} (hW : G.w = w) (B : Bl mg) (T : ClD G mg c) (Fneed_term : Cal P w G mg base 2 "need_term" (spneed_term c)) {f : Addr} {fd : FuncData} (F : Fun G.K "node" "Bank.node" stBank_node f fd) : FnD P w G mg base CX0 3 f fd ["self", "term"] (spBank_node c) := by
  refine FnD.mk F scBank_node ?_ (fun cdv A outer s H E hr => deBank_node hW B T Fneed_term cdv A outer s H E hr) (sem_of (sem_Bank_node c))
  intro ds st R xq h
  unfold spBank_node at h
  repeat (first | (obtain ⟨rfl, _⟩ := h; rfl) | (obtain ⟨_, h⟩ := h))
theorem fnBank_names {P : Program} {w : World} {G : Gm} {mg : Str → Option Value} {base : Heap} {c : Cl} (hW : G.w = w) (B : Bl mg) (T : ClD G mg c)  {f : Addr} {fd : FuncData} (F : Fun G.K "names" "Bank.names" stBank_names f fd) : FnD P w G mg base CX0 1 f fd ["self"] (spBank_names c) := by
  refine FnD.mk F scBank_names ?_ (fun cdv A outer s H E hr => deBank_names hW B T  cdv A outer s H E hr) (sem_of (sem_Bank_names c))
  intro ds st R xq h
  unfold spBank_names at h
  repeat (first | (obtain ⟨rfl, _⟩ := h; rfl) | (obtain ⟨_, h⟩ := h))
theorem fn_law_spring {P : Program} {w : World} {G : Gm} {mg : Str → Option Value} {base : Heap} {c : Cl} (hW : G.w = w) (B : Bl mg) (T : ClD G mg c)  {f : Addr} {fd : FuncData} (F : Fun G.K "_law_spring" "_law_spring" st_law_spring f fd) : FnD P w G mg base CX0 1 f fd ["_law_script"] (sp_law_spring c) := by
  refine FnD.mk F sc_law_spring ?_ (fun cdv A outer s H E hr => de_law_spring hW B T  cdv A outer s H E hr) (sem_of (sem_law_spring c))
  intro ds st R xq h
  unfold sp_law_spring at h
  repeat (first | (obtain ⟨rfl, _⟩ := h; rfl) | (obtain ⟨_, h⟩ := h))
theorem fn_law_draw {P : Program} {w : World} {G : Gm} {mg : Str → Option Value} {base : Heap} {c : Cl} (hW : G.w = w) (B : Bl mg) (T : ClD G mg c)  {f : Addr} {fd : FuncData} (F : Fun G.K "_law_draw" "_law_draw" st_law_draw f fd) : FnD P w G mg base CX0 1 f fd ["_law_spring_here", "_law_many"] (sp_law_draw c) := by
  refine FnD.mk F sc_law_draw ?_ (fun cdv A outer s H E hr => de_law_draw hW B T  cdv A outer s H E hr) (sem_of (sem_law_draw c))
  intro ds st R xq h
  unfold sp_law_draw at h
  repeat (first | (obtain ⟨rfl, _⟩ := h; rfl) | (obtain ⟨_, h⟩ := h))
theorem fn_law_words {P : Program} {w : World} {G : Gm} {mg : Str → Option Value} {base : Heap} {c : Cl} (hW : G.w = w) (B : Bl mg) (T : ClD G mg c) (F_law_draw : Cal P w G mg base 1 "_law_draw" (sp_law_draw c)) {f : Addr} {fd : FuncData} (F : Fun G.K "_law_words" "_law_words" st_law_words f fd) : FnD P w G mg base CX0 2 f fd ["_law_spring_here", "_law_size"] (sp_law_words c) := by
  refine FnD.mk F sc_law_words ?_ (fun cdv A outer s H E hr => de_law_words hW B T F_law_draw cdv A outer s H E hr) (sem_of (sem_law_words c))
  intro ds st R xq h
  unfold sp_law_words at h
  repeat (first | (obtain ⟨rfl, _⟩ := h; rfl) | (obtain ⟨_, h⟩ := h))
theorem fn_law_signs {P : Program} {w : World} {G : Gm} {mg : Str → Option Value} {base : Heap} {c : Cl} (hW : G.w = w) (B : Bl mg) (T : ClD G mg c)  {f : Addr} {fd : FuncData} (F : Fun G.K "_law_signs" "_law_signs" st_law_signs f fd) : FnD P w G mg base CX0 1 f fd ["_law_number_here", "_law_width"] (sp_law_signs c) := by
  refine FnD.mk F sc_law_signs ?_ (fun cdv A outer s H E hr => de_law_signs hW B T  cdv A outer s H E hr) (sem_of (sem_law_signs c))
  intro ds st R xq h
  unfold sp_law_signs at h
  repeat (first | (obtain ⟨rfl, _⟩ := h; rfl) | (obtain ⟨_, h⟩ := h))
theorem fn_law_number {P : Program} {w : World} {G : Gm} {mg : Str → Option Value} {base : Heap} {c : Cl} (hW : G.w = w) (B : Bl mg) (T : ClD G mg c)  {f : Addr} {fd : FuncData} (F : Fun G.K "_law_number" "_law_number" st_law_number f fd) : FnD P w G mg base CX0 1 f fd ["_law_bits"] (sp_law_number c) := by
  refine FnD.mk F sc_law_number ?_ (fun cdv A outer s H E hr => de_law_number hW B T  cdv A outer s H E hr) (sem_of (sem_law_number c))
  intro ds st R xq h
  unfold sp_law_number at h
  repeat (first | (obtain ⟨rfl, _⟩ := h; rfl) | (obtain ⟨_, h⟩ := h))
theorem fn_law_whole {P : Program} {w : World} {G : Gm} {mg : Str → Option Value} {base : Heap} {c : Cl} (hW : G.w = w) (B : Bl mg) (T : ClD G mg c)  {f : Addr} {fd : FuncData} (F : Fun G.K "_law_whole" "_law_whole" st_law_whole f fd) : FnD P w G mg base CX0 1 f fd ["_law_found", "_law_due"] (sp_law_whole c) := by
  refine FnD.mk F sc_law_whole ?_ (fun cdv A outer s H E hr => de_law_whole hW B T  cdv A outer s H E hr) (sem_of (sem_law_whole c))
  intro ds st R xq h
  unfold sp_law_whole at h
  repeat (first | (obtain ⟨rfl, _⟩ := h; rfl) | (obtain ⟨_, h⟩ := h))
theorem fnall_under {P : Program} {w : World} {G : Gm} {mg : Str → Option Value} {base : Heap} {c : Cl} (hW : G.w = w) (B : Bl mg) (T : ClD G mg c) (FBank_node : CalM P w G mg base 3 c.Bank NBank "node" (spBank_node c)) {f : Addr} {fd : FuncData} (F : Fun G.K "all_under" "all_under" stall_under f fd) : FnD P w G mg base CX0 4 f fd ["bank", "terms"] (spall_under c) := by
  refine FnD.mk F scall_under ?_ (fun cdv A outer s H E hr => deall_under hW B T FBank_node cdv A outer s H E hr) (sem_of (sem_all_under c))
  intro ds st R xq h
  unfold spall_under at h
  repeat (first | (obtain ⟨rfl, _⟩ := h; rfl) | (obtain ⟨_, h⟩ := h))
theorem fnneed_model {P : Program} {w : World} {G : Gm} {mg : Str → Option Value} {base : Heap} {c : Cl} (hW : G.w = w) (B : Bl mg) (T : ClD G mg c) (FBank_names : CalM P w G mg base 1 c.Bank NBank "names" (spBank_names c)) (Fis_worth : Cal P w G mg base 3 "is_worth" (spis_worth c)) {f : Addr} {fd : FuncData} (F : Fun G.K "need_model" "need_model" stneed_model f fd) : FnD P w G mg base CX0 4 f fd ["bank", "model"] (spneed_model c) := by
  refine FnD.mk F scneed_model ?_ (fun cdv A outer s H E hr => deneed_model hW B T FBank_names Fis_worth cdv A outer s H E hr) (sem_of (sem_need_model c))
  intro ds st R xq h
  unfold spneed_model at h
  repeat (first | (obtain ⟨rfl, _⟩ := h; rfl) | (obtain ⟨_, h⟩ := h))
theorem fnworths_under {P : Program} {w : World} {G : Gm} {mg : Str → Option Value} {base : Heap} {c : Cl} (hW : G.w = w) (B : Bl mg) (T : ClD G mg c) (Fall_under : Cal P w G mg base 4 "all_under" (spall_under c)) (FBank_node : CalM P w G mg base 3 c.Bank NBank "node" (spBank_node c)) (Fplain_worth : Cal P w G mg base 2 "plain_worth" (spplain_worth c)) (Fworth_by : Cal P w G mg base 4 "worth_by" (spworth_by c)) (FBank_kind : CalM P w G mg base 3 c.Bank NBank "kind" (spBank_kind c)) {f : Addr} {fd : FuncData} (F : Fun G.K "worths_under" "worths_under" stworths_under f fd) : FnD P w G mg base CX0 5 f fd ["bank", "terms", "model"] (spworths_under c) := by
  refine FnD.mk F scworths_under ?_ (fun cdv A outer s H E hr => deworths_under hW B T Fall_under FBank_node Fplain_worth Fworth_by FBank_kind cdv A outer s H E hr) (sem_of (sem_worths_under c))
  intro ds st R xq h
  unfold spworths_under at h
  repeat (first | (obtain ⟨rfl, _⟩ := h; rfl) | (obtain ⟨_, h⟩ := h))
theorem fnworth_of {P : Program} {w : World} {G : Gm} {mg : Str → Option Value} {base : Heap} {c : Cl} (hW : G.w = w) (B : Bl mg) (T : ClD G mg c) (FBank_kind : CalM P w G mg base 3 c.Bank NBank "kind" (spBank_kind c)) (Fneed_model : Cal P w G mg base 4 "need_model" (spneed_model c)) (Fworths_under : Cal P w G mg base 5 "worths_under" (spworths_under c)) {f : Addr} {fd : FuncData} (F : Fun G.K "worth_of" "worth_of" stworth_of f fd) : FnD P w G mg base CX0 6 f fd ["bank", "term", "model"] (spworth_of c) := by
  refine FnD.mk F scworth_of ?_ (fun cdv A outer s H E hr => deworth_of hW B T FBank_kind Fneed_model Fworths_under cdv A outer s H E hr) (sem_of (sem_worth_of c))
  intro ds st R xq h
  unfold spworth_of at h
  repeat (first | (obtain ⟨rfl, _⟩ := h; rfl) | (obtain ⟨_, h⟩ := h))
theorem fn_law_cuts {P : Program} {w : World} {G : Gm} {mg : Str → Option Value} {base : Heap} {c : Cl} (hW : G.w = w) (B : Bl mg) (T : ClD G mg c) (FGBank_make_3_0 : CalG P w G mg base 5 c.Bank NBank "make" 3 [] [] [(.tup [])] (spBank_make c)) (FGBank_make_3_1 : CalG P w G mg base 5 c.Bank NBank "make" 3 ["marks"] [] [] (spBank_make c)) (F_law_number : Cal P w G mg base 1 "_law_number" (sp_law_number c)) (FBank_kind : CalM P w G mg base 3 c.Bank NBank "kind" (spBank_kind c)) (F_law_whole : Cal P w G mg base 1 "_law_whole" (sp_law_whole c)) (Fworth_of : Cal P w G mg base 6 "worth_of" (spworth_of c)) {f : Addr} {fd : FuncData} (F : Fun G.K "_law_cuts" "_law_cuts" st_law_cuts f fd) : FnD P w G mg base CX0 7 f fd ["_law_bank", "_law_term", "_law_bits", "_law_model"] (sp_law_cuts c) := by
  refine FnD.mk F sc_law_cuts ?_ (fun cdv A outer s H E hr => de_law_cuts hW B T FGBank_make_3_0 FGBank_make_3_1 F_law_number FBank_kind F_law_whole Fworth_of cdv A outer s H E hr) (sem_of (sem_law_cuts c))
  intro ds st R xq h
  unfold sp_law_cuts at h
  repeat (first | (obtain ⟨rfl, _⟩ := h; rfl) | (obtain ⟨_, h⟩ := h))
theorem fn_law_chosen {P : Program} {w : World} {G : Gm} {mg : Str → Option Value} {base : Heap} {c : Cl} (hW : G.w = w) (B : Bl mg) (T : ClD G mg c) (FGBank_make_3_0 : CalG P w G mg base 5 c.Bank NBank "make" 3 [] [] [(.tup [])] (spBank_make c)) (Fworth_of : Cal P w G mg base 6 "worth_of" (spworth_of c)) (F_law_whole : Cal P w G mg base 1 "_law_whole" (sp_law_whole c)) {f : Addr} {fd : FuncData} (F : Fun G.K "_law_chosen" "_law_chosen" st_law_chosen f fd) : FnD P w G mg base CX0 7 f fd ["_law_bank", "_law_term", "_law_other", "_law_numbers", "_law_model"] (sp_law_chosen c) := by
  refine FnD.mk F sc_law_chosen ?_ (fun cdv A outer s H E hr => de_law_chosen hW B T FGBank_make_3_0 Fworth_of F_law_whole cdv A outer s H E hr) (sem_of (sem_law_chosen c))
  intro ds st R xq h
  unfold sp_law_chosen at h
  repeat (first | (obtain ⟨rfl, _⟩ := h; rfl) | (obtain ⟨_, h⟩ := h))
theorem fnlaw {P : Program} {w : World} {G : Gm} {mg : Str → Option Value} {base : Heap} {c : Cl} (hW : G.w = w) (B : Bl mg) (T : ClD G mg c) (F_law_spring : Cal P w G mg base 1 "_law_spring" (sp_law_spring c)) (F_law_draw : Cal P w G mg base 1 "_law_draw" (sp_law_draw c)) (F_law_words : Cal P w G mg base 2 "_law_words" (sp_law_words c)) (FBank_DinitD : CalI P w G mg base 1 c.Bank "Bank" (spBank_DinitD c)) (FBank_name : CalM P w G mg base 3 c.Bank NBank "name" (spBank_name c)) (FGBank_make_2_1 : CalG P w G mg base 5 c.Bank NBank "make" 2 ["marks"] [(.tup [])] [] (spBank_make c)) (FGBank_make_3_0 : CalG P w G mg base 5 c.Bank NBank "make" 3 [] [] [(.tup [])] (spBank_make c)) (F_law_signs : Cal P w G mg base 1 "_law_signs" (sp_law_signs c)) (F_law_cuts : Cal P w G mg base 7 "_law_cuts" (sp_law_cuts c)) (F_law_chosen : Cal P w G mg base 7 "_law_chosen" (sp_law_chosen c)) {f : Addr} {fd : FuncData} (F : Fun G.K "law" "law" stlaw f fd) : FnD P w G mg base CX0 8 f fd ["_law_script"] (splaw c) := by
  refine FnD.mk F sclaw ?_ (fun cdv A outer s H E hr => delaw hW B T F_law_spring F_law_draw F_law_words FBank_DinitD FBank_name FGBank_make_2_1 FGBank_make_3_0 F_law_signs F_law_cuts F_law_chosen cdv A outer s H E hr) (sem_of (sem_law c))
  intro ds st R xq h
  unfold splaw at h
  repeat (first | (obtain ⟨rfl, _⟩ := h; rfl) | (obtain ⟨_, h⟩ := h))
theorem binds_dflt {K : PySem.W.Frag} {fd : FuncData} {ps : List Str} {x : Str} {T : Addr} (h : ∃ ds, Vals ([(x, V.ref T)].map (·.2)) ds ∧ Binds K fd ps ds) : Binds K fd ps [.ref T] := by
  obtain ⟨ds, v, b⟩ := h
  cases v with
  | cons r rr => cases rr; cases r; exact b
theorem sqT_nil {K : PySem.W.Frag} {T : Addr} {ox : Option Addr} {n : Nat} {sx : Array (Option Value)} (t : K.lookup T = some ⟨.type "tuple", ox, .seq #[] n, sx⟩) : SqT K (fun _ => none) T [] := .inr ⟨_, #[], n, t, rfl, rfl, by simp, .nil⟩
def spLaw (K : PySem.W.Frag) : Sp := fun vs H Q _ => ∃ (a : Addr) (ns : List Int), vs = [.ref a] ∧ SqL K H a (ns.map V.int) ∧ ns.length ≤ 63 ∧ ∀ H', Q (.bl true) H'
theorem RpL_ints {K : PySem.W.Frag} {W : Wd} {H : Hp} : ∀ ns : List Int, RpL K W H (dIs ns) (ns.map V.int)
  | [] => by simp [RpL]
  | n :: ns => by
    simp only [dIs, List.map_cons, RpL]
    exact ⟨_, _, rfl, by simp [Rp], RpL_ints ns⟩
theorem law_start {K : PySem.W.Frag} {c : Cl} {g : Addr → List Str} {vs : List V} {H : Hp} {Q : VK} {E : XK} {w : World} (h : spLaw K vs H Q E) : spD ⟨K, g, w⟩ (splaw c) vs H Q E := by
  obtain ⟨a, ns, rfl, hS, hl, k⟩ := h
  refine ⟨⟨[], []⟩, [.scr (dIs ns)], [], fun d _ => d = .bl true, fun _ _ => False, ⟨by simp, rfl, by simp, by simp, fun k c e => by simp at e⟩, ?_, ⟨ns, rfl, by omega, fun _ => rfl⟩, ⟨fun W' H' d v st' _ _ r e => by subst e; simp only [Rp] at r; subst r; exact k _, fun _ _ _ _ _ _ q => q.elim⟩⟩
  simp only [RpL]
  refine ⟨_, _, rfl, ?_, rfl⟩
  simp only [Rp]
  refine ⟨a, ns.map V.int, rfl, ?_, RpL_ints ns⟩
  rcases hS with q | q
  · exact .inl ⟨by simp, by simp, q⟩
  · exact .inr (.inr q)

def EsT : List DictEntry → List (Str × Addr) → Prop
  | [], [] => True
  | e :: es, p :: tb => ((∃ t, e.key = .str p.1 t) ∧ e.val = .ref p.2) ∧ EsT es tb
  | _, _ => False
theorem est_ns {x : Str} : ∀ {es : List DictEntry} {tb : List (Str × Addr)}, EsT es tb → (es.find? (·.key.isStr x)).map (·.val) = (tb.lookup x).map Value.ref ∧ es.any (·.refKey) = false
  | [], [], _ => ⟨rfl, rfl⟩
  | [], _ :: _, h => by cases h
  | _ :: _, [], h => by cases h
  | e :: es, p :: tb, h => by
    obtain ⟨⟨⟨t, h1⟩, h2⟩, h3⟩ := h
    obtain ⟨i1, i2⟩ := est_ns (x := x) h3
    have r : e.refKey = false := by
      rcases e with ⟨k, v, hh⟩
      cases h1; rfl
    have s : e.key.isStr x = decide (p.1 = x) := by
      rw [h1]
      show (p.1 == x) = decide (p.1 = x)
      by_cases q : p.1 = x <;> simp [q]
    refine ⟨?_, by rw [List.any_cons, r, i2]; rfl⟩
    rw [List.find?_cons, s]
    by_cases q : p.1 = x
    · subst q
      simp [List.lookup, h2]
    · have q' : (x == p.1) = false := by
        have : ¬ x = p.1 := fun z => q z.symm
        simp [this]
      rw [decide_eq_false q]
      simp only [List.lookup, q']
      exact i1
theorem tab_of {G : Gm} {d : Addr} {es : Array DictEntry} {n : Nat} {tb : List (Str × Addr)} (hl : G.K.lookup d = some ⟨.type "dict", none, .dict es n, #[]⟩) (hk : PySem.W.KeysLit G.w.params es.toList) (hs : (d == sysModules) = false) (ht : EsT es.toList tb) : TabD G d tb := by
  refine ⟨es, n, hl, hk, hs, fun x => ?_⟩
  obtain ⟨h1, h2⟩ := est_ns (x := x) ht
  unfold PySem.W.nsIn
  rw [hl]
  cases e : es.toList.find? (·.key.isStr x) with
  | some y => rw [e] at h1; simp only [Option.map_some] at h1; simp only [e]; rw [← h1]
  | none => rw [e] at h1; simp only [Option.map_none] at h1; simp only [e, h2]; rw [← h1]; rfl
theorem gl_str {G : Gm} {mg : Str → Option Value} {x z : Str} {t : Tok} (h : mg x = some (.str z t)) : GlD G mg x (.str z) := ⟨.str z, _, h, ⟨t, rfl⟩, fun _ _ => rfl⟩
theorem gl_int {G : Gm} {mg : Str → Option Value} {x : Str} {z : Int} {t : Tok} (h : mg x = some (.int z t)) : GlD G mg x (.int z) := ⟨.int z, _, h, ⟨t, rfl⟩, fun _ _ => rfl⟩
theorem gl_raw {G : Gm} {mg : Str → Option Value} {x : Str} {a : Addr} (h : mg x = some (.ref a)) : GlD G mg x (.raw (.ref a)) := ⟨.ref a, _, h, rfl, fun _ _ => rfl⟩
theorem gl_tup1 {G : Gm} {mg : Str → Option Value} {x z : Str} {a : Addr} {o : Option Addr} {t : Tok} {n : Nat} {s : Array (Option Value)} (h : mg x = some (.ref a)) (l : G.K.lookup a = some ⟨.type "tuple", o, .seq #[.str z t] n, s⟩) : GlD G mg x (.tup [.str z]) := by
  refine ⟨.ref a, _, h, rfl, fun W H => ?_⟩
  simp only [Rp]
  exact ⟨a, [.str z], rfl, .inr (.inr ⟨_, #[.str z t], n, l, rfl, rfl, (by show 1 ≤ sizeLine; decide), .cons ⟨t, rfl⟩ .nil⟩), by simp only [RpL]; exact ⟨_, _, rfl, rfl, rfl⟩⟩
theorem rp_nil {K : PySem.W.Frag} {W : Wd} {H : Hp} {T : Addr} {ox : Option Addr} {n : Nat} {sx : Array (Option Value)} (t : K.lookup T = some ⟨.type "tuple", ox, .seq #[] n, sx⟩) : RpL K W H [.tup []] [V.ref T] := by
  simp only [RpL]
  refine ⟨_, _, rfl, ?_, rfl⟩
  simp only [Rp]
  exact ⟨T, [], rfl, .inr (sqT_nil t), rfl⟩
theorem kbn_dflt {K : PySem.W.Frag} {fd : FuncData} {ps : List Str} {ds : List Value} {dvs : List V} (n : Nat) (b : Binds K fd ps ds) (hd : Vals dvs ds) (hn : n + dvs.length = ps.length) : KBn K fd ps n [] (fun us ws => us ++ ws ++ ds) (fun vs zs => vs ++ zs ++ dvs) := by
  refine ⟨fun s us ws X l1 l2 => ?_, fun r1 r2 => (r1.append r2).append hd⟩
  have : ws = [] := List.eq_nil_of_length_eq_zero l2
  subst this
  rw [List.append_nil]
  exact b s us X (by rw [List.length_append, ← hd.length]; omega)

theorem all_mk {l : PySem.W.OpenLaw} {w : World} {K : PySem.W.Frag} {h : Heap} {mg : Str → Option Value} {fa C0 T0 T1 f0 f1 f2 f3 f4 f5 f6 f7 f8 f9 f10 f11 f12 f13 f14 f15 f16 f17 f18 f19 f20 f21 f22 f23 f24 f25 f26 f27 f28 f29 f30 f31 f32 f33 f34 f35 f36 f37 f38 f39 kT40 kE40 kD40 kM40 f40 f41 f42 f43 f44 f45 f46 f47 f48 f49 f50 f51 f52 f53 f54 f55 f56 f57 gA0 gA1 : Addr} (X : K.In h) (G : h.Ns mainGlobals mg) (hfa : mg "law" = some (.ref fa))
    {od0 an0 od1 an1 od2 an2 od3 an3 od4 an4 od5 an5 od6 an6 od7 an7 od8 an8 od9 an9 od10 an10 od11 an11 od12 an12 od13 an13 od14 an14 od15 an15 od16 an16 od17 an17 od18 an18 od19 an19 od20 an20 od21 an21 od22 an22 od23 an23 od24 an24 od25 an25 od26 an26 od27 an27 od28 an28 od29 an29 od30 an30 od31 an31 od32 an32 od33 an33 od34 an34 od35 an35 od36 an36 od37 an37 od38 an38 od39 an39 oz40 ox40 oy40 od40 an40 od41 an41 od42 an42 od43 an43 od44 an44 od45 an45 od46 an46 od47 an47 od48 an48 od49 an49 od50 an50 od51 an51 od52 an52 od53 an53 od54 an54 od55 an55 od56 an56 od57 an57 go0 go1 : Option Addr} {sl0 sl1 sl2 sl3 sl4 sl5 sl6 sl7 sl8 sl9 sl10 sl11 sl12 sl13 sl14 sl15 sl16 sl17 sl18 sl19 sl20 sl21 sl22 sl23 sl24 sl25 sl26 sl27 sl28 sl29 sl30 sl31 sl32 sl33 sl34 sl35 sl36 sl37 sl38 sl39 sz40 sx40 sy40 sl40 sl41 sl42 sl43 sl44 sl45 sl46 sl47 sl48 sl49 sl50 sl51 sl52 sl53 sl54 sl55 sl56 sl57 gs0 gs1 : Array (Option Value)} {oc0 dc0 pm0 cd0 ct0 kV0 oc1 dc1 pm1 cd1 ct1 kV1 oc2 dc2 pm2 cd2 ct2 kV2 oc3 dc3 pm3 cd3 ct3 kV3 oc4 dc4 pm4 cd4 ct4 kV4 oc5 dc5 pm5 cd5 ct5 kV5 oc6 dc6 pm6 cd6 ct6 kV6 oc7 dc7 pm7 cd7 ct7 kV7 oc8 dc8 pm8 cd8 ct8 kV8 oc9 dc9 pm9 cd9 ct9 kV9 oc10 dc10 pm10 cd10 ct10 kV10 oc11 dc11 pm11 cd11 ct11 kV11 oc12 dc12 pm12 cd12 ct12 kV12 oc13 dc13 pm13 cd13 ct13 kV13 oc14 dc14 pm14 cd14 ct14 kV14 oc15 dc15 pm15 cd15 ct15 kV15 oc16 dc16 pm16 cd16 ct16 kV16 oc17 dc17 pm17 cd17 ct17 kV17 oc18 dc18 pm18 cd18 ct18 kV18 oc19 dc19 pm19 cd19 ct19 kV19 oc20 dc20 pm20 cd20 ct20 kV20 oc21 dc21 pm21 cd21 ct21 kV21 oc22 dc22 pm22 cd22 ct22 kV22 oc23 dc23 pm23 cd23 ct23 kV23 oc24 dc24 pm24 cd24 ct24 kV24 oc25 dc25 pm25 cd25 ct25 kV25 oc26 dc26 pm26 cd26 ct26 kV26 oc27 dc27 pm27 cd27 ct27 kV27 oc28 dc28 pm28 cd28 ct28 kV28 oc29 dc29 pm29 cd29 ct29 kV29 oc30 dc30 pm30 cd30 ct30 kV30 oc31 dc31 pm31 cd31 ct31 kV31 oc32 dc32 pm32 cd32 ct32 kV32 oc33 dc33 pm33 cd33 ct33 kV33 oc34 dc34 pm34 cd34 ct34 kV34 oc35 dc35 pm35 cd35 ct35 kV35 oc36 dc36 pm36 cd36 ct36 kV36 oc37 dc37 pm37 cd37 ct37 kV37 oc38 dc38 pm38 cd38 ct38 kV38 oc39 dc39 pm39 cd39 ct39 kV39 oc40 dc40 pm40 cd40 ct40 oc41 dc41 pm41 cd41 ct41 kV41 oc42 dc42 pm42 cd42 ct42 kV42 oc43 dc43 pm43 cd43 ct43 kV43 oc44 dc44 pm44 cd44 ct44 kV44 oc45 dc45 pm45 cd45 ct45 kV45 oc46 dc46 pm46 cd46 ct46 kV46 oc47 dc47 pm47 cd47 ct47 kV47 oc48 dc48 pm48 cd48 ct48 kV48 oc49 dc49 pm49 cd49 ct49 kV49 oc50 dc50 pm50 cd50 ct50 kV50 oc51 dc51 pm51 cd51 ct51 kV51 oc52 dc52 pm52 cd52 ct52 kV52 oc53 dc53 pm53 cd53 ct53 kV53 oc54 dc54 pm54 cd54 ct54 kV54 oc55 dc55 pm55 cd55 ct55 kV55 oc56 dc56 pm56 cd56 ct56 kV56 oc57 dc57 pm57 cd57 ct57 kV57 : Value} {tz40 tn40 tm40 gn0 gn1 td0 td1 : Nat} {gk0 gk1 gk2 gk3 gk4 gk5 : Tok} {te0 te1 : Array DictEntry}
    (a0 : PySem.W.nsIn K mainGlobals "two_to" = some (some (.ref f0)))
    (l0 : K.lookup f0 = some ⟨oc0, od0, .func (PySem.W.fnOf "two_to" "two_to" (defArgs sttwo_to) (defBody sttwo_to) (defScope sttwo_to) .none kV0 dc0 pm0 an0 cd0 ct0), sl0⟩) (c0 : PySem.W.codeIn K cd0 "two_to" = true) (k0 : PySem.W.keepIn K (.ref f0) = true)
    (a1 : PySem.W.nsIn K mainGlobals "as_signed" = some (some (.ref f1)))
    (l1 : K.lookup f1 = some ⟨oc1, od1, .func (PySem.W.fnOf "as_signed" "as_signed" (defArgs stas_signed) (defBody stas_signed) (defScope stas_signed) .none kV1 dc1 pm1 an1 cd1 ct1), sl1⟩) (c1 : PySem.W.codeIn K cd1 "as_signed" = true) (k1 : PySem.W.keepIn K (.ref f1) = true)
    (a2 : PySem.W.nsIn K mainGlobals "div_of" = some (some (.ref f2)))
    (l2 : K.lookup f2 = some ⟨oc2, od2, .func (PySem.W.fnOf "div_of" "div_of" (defArgs stdiv_of) (defBody stdiv_of) (defScope stdiv_of) .none kV2 dc2 pm2 an2 cd2 ct2), sl2⟩) (c2 : PySem.W.codeIn K cd2 "div_of" = true) (k2 : PySem.W.keepIn K (.ref f2) = true)
    (a3 : PySem.W.nsIn K mainGlobals "rest_of" = some (some (.ref f3)))
    (l3 : K.lookup f3 = some ⟨oc3, od3, .func (PySem.W.fnOf "rest_of" "rest_of" (defArgs strest_of) (defBody strest_of) (defScope strest_of) .none kV3 dc3 pm3 an3 cd3 ct3), sl3⟩) (c3 : PySem.W.codeIn K cd3 "rest_of" = true) (k3 : PySem.W.keepIn K (.ref f3) = true)
    (a4 : PySem.W.nsIn K mainGlobals "shl_of" = some (some (.ref f4)))
    (l4 : K.lookup f4 = some ⟨oc4, od4, .func (PySem.W.fnOf "shl_of" "shl_of" (defArgs stshl_of) (defBody stshl_of) (defScope stshl_of) .none kV4 dc4 pm4 an4 cd4 ct4), sl4⟩) (c4 : PySem.W.codeIn K cd4 "shl_of" = true) (k4 : PySem.W.keepIn K (.ref f4) = true)
    (a5 : PySem.W.nsIn K mainGlobals "sar_of" = some (some (.ref f5)))
    (l5 : K.lookup f5 = some ⟨oc5, od5, .func (PySem.W.fnOf "sar_of" "sar_of" (defArgs stsar_of) (defBody stsar_of) (defScope stsar_of) .none kV5 dc5 pm5 an5 cd5 ct5), sl5⟩) (c5 : PySem.W.codeIn K cd5 "sar_of" = true) (k5 : PySem.W.keepIn K (.ref f5) = true)
    (a6 : PySem.W.nsIn K mainGlobals "shr_of" = some (some (.ref f6)))
    (l6 : K.lookup f6 = some ⟨oc6, od6, .func (PySem.W.fnOf "shr_of" "shr_of" (defArgs stshr_of) (defBody stshr_of) (defScope stshr_of) .none kV6 dc6 pm6 an6 cd6 ct6), sl6⟩) (c6 : PySem.W.codeIn K cd6 "shr_of" = true) (k6 : PySem.W.keepIn K (.ref f6) = true)
    (a7 : PySem.W.nsIn K mainGlobals "band_of" = some (some (.ref f7)))
    (l7 : K.lookup f7 = some ⟨oc7, od7, .func (PySem.W.fnOf "band_of" "band_of" (defArgs stband_of) (defBody stband_of) (defScope stband_of) .none kV7 dc7 pm7 an7 cd7 ct7), sl7⟩) (c7 : PySem.W.codeIn K cd7 "band_of" = true) (k7 : PySem.W.keepIn K (.ref f7) = true)
    (a8 : PySem.W.nsIn K mainGlobals "bor_of" = some (some (.ref f8)))
    (l8 : K.lookup f8 = some ⟨oc8, od8, .func (PySem.W.fnOf "bor_of" "bor_of" (defArgs stbor_of) (defBody stbor_of) (defScope stbor_of) .none kV8 dc8 pm8 an8 cd8 ct8), sl8⟩) (c8 : PySem.W.codeIn K cd8 "bor_of" = true) (k8 : PySem.W.keepIn K (.ref f8) = true)
    (a9 : PySem.W.nsIn K mainGlobals "bxor_of" = some (some (.ref f9)))
    (l9 : K.lookup f9 = some ⟨oc9, od9, .func (PySem.W.fnOf "bxor_of" "bxor_of" (defArgs stbxor_of) (defBody stbxor_of) (defScope stbxor_of) .none kV9 dc9 pm9 an9 cd9 ct9), sl9⟩) (c9 : PySem.W.codeIn K cd9 "bxor_of" = true) (k9 : PySem.W.keepIn K (.ref f9) = true)
    (a10 : PySem.W.nsIn K mainGlobals "add_of" = some (some (.ref f10)))
    (l10 : K.lookup f10 = some ⟨oc10, od10, .func (PySem.W.fnOf "add_of" "add_of" (defArgs stadd_of) (defBody stadd_of) (defScope stadd_of) .none kV10 dc10 pm10 an10 cd10 ct10), sl10⟩) (c10 : PySem.W.codeIn K cd10 "add_of" = true) (k10 : PySem.W.keepIn K (.ref f10) = true)
    (a11 : PySem.W.nsIn K mainGlobals "sub_of" = some (some (.ref f11)))
    (l11 : K.lookup f11 = some ⟨oc11, od11, .func (PySem.W.fnOf "sub_of" "sub_of" (defArgs stsub_of) (defBody stsub_of) (defScope stsub_of) .none kV11 dc11 pm11 an11 cd11 ct11), sl11⟩) (c11 : PySem.W.codeIn K cd11 "sub_of" = true) (k11 : PySem.W.keepIn K (.ref f11) = true)
    (a12 : PySem.W.nsIn K mainGlobals "mul_of" = some (some (.ref f12)))
    (l12 : K.lookup f12 = some ⟨oc12, od12, .func (PySem.W.fnOf "mul_of" "mul_of" (defArgs stmul_of) (defBody stmul_of) (defScope stmul_of) .none kV12 dc12 pm12 an12 cd12 ct12), sl12⟩) (c12 : PySem.W.codeIn K cd12 "mul_of" = true) (k12 : PySem.W.keepIn K (.ref f12) = true)
    (a13 : PySem.W.nsIn K mainGlobals "less_of" = some (some (.ref f13)))
    (l13 : K.lookup f13 = some ⟨oc13, od13, .func (PySem.W.fnOf "less_of" "less_of" (defArgs stless_of) (defBody stless_of) (defScope stless_of) .none kV13 dc13 pm13 an13 cd13 ct13), sl13⟩) (c13 : PySem.W.codeIn K cd13 "less_of" = true) (k13 : PySem.W.keepIn K (.ref f13) = true)
    (a14 : PySem.W.nsIn K mainGlobals "sless_of" = some (some (.ref f14)))
    (l14 : K.lookup f14 = some ⟨oc14, od14, .func (PySem.W.fnOf "sless_of" "sless_of" (defArgs stsless_of) (defBody stsless_of) (defScope stsless_of) .none kV14 dc14 pm14 an14 cd14 ct14), sl14⟩) (c14 : PySem.W.codeIn K cd14 "sless_of" = true) (k14 : PySem.W.keepIn K (.ref f14) = true)
    (a15 : PySem.W.nsIn K mainGlobals "moved_worth" = some (some (.ref f15)))
    (l15 : K.lookup f15 = some ⟨oc15, od15, .func (PySem.W.fnOf "moved_worth" "moved_worth" (defArgs stmoved_worth) (defBody stmoved_worth) (defScope stmoved_worth) .none kV15 dc15 pm15 an15 cd15 ct15), sl15⟩) (c15 : PySem.W.codeIn K cd15 "moved_worth" = true) (k15 : PySem.W.keepIn K (.ref f15) = true)
    (a16 : PySem.W.nsIn K mainGlobals "worth_by" = some (some (.ref f16)))
    (l16 : K.lookup f16 = some ⟨oc16, od16, .func (PySem.W.fnOf "worth_by" "worth_by" (defArgs stworth_by) (defBody stworth_by) (defScope stworth_by) .none kV16 dc16 pm16 an16 cd16 ct16), sl16⟩) (c16 : PySem.W.codeIn K cd16 "worth_by" = true) (k16 : PySem.W.keepIn K (.ref f16) = true)
    (a17 : PySem.W.nsIn K mainGlobals "plain_worth" = some (some (.ref f17)))
    (l17 : K.lookup f17 = some ⟨oc17, od17, .func (PySem.W.fnOf "plain_worth" "plain_worth" (defArgs stplain_worth) (defBody stplain_worth) (defScope stplain_worth) .none kV17 dc17 pm17 an17 cd17 ct17), sl17⟩) (c17 : PySem.W.codeIn K cd17 "plain_worth" = true) (k17 : PySem.W.keepIn K (.ref f17) = true)
    (a18 : PySem.W.nsIn K mainGlobals "is_number" = some (some (.ref f18)))
    (l18 : K.lookup f18 = some ⟨oc18, od18, .func (PySem.W.fnOf "is_number" "is_number" (defArgs stis_number) (defBody stis_number) (defScope stis_number) .none kV18 dc18 pm18 an18 cd18 ct18), sl18⟩) (c18 : PySem.W.codeIn K cd18 "is_number" = true) (k18 : PySem.W.keepIn K (.ref f18) = true)
    (a19 : PySem.W.nsIn K mainGlobals "is_worth" = some (some (.ref f19)))
    (l19 : K.lookup f19 = some ⟨oc19, od19, .func (PySem.W.fnOf "is_worth" "is_worth" (defArgs stis_worth) (defBody stis_worth) (defScope stis_worth) .none kV19 dc19 pm19 an19 cd19 ct19), sl19⟩) (c19 : PySem.W.codeIn K cd19 "is_worth" = true) (k19 : PySem.W.keepIn K (.ref f19) = true)
    (a20 : PySem.W.nsIn K mainGlobals "is_whole" = some (some (.ref f20)))
    (l20 : K.lookup f20 = some ⟨oc20, od20, .func (PySem.W.fnOf "is_whole" "is_whole" (defArgs stis_whole) (defBody stis_whole) (defScope stis_whole) .none kV20 dc20 pm20 an20 cd20 ct20), sl20⟩) (c20 : PySem.W.codeIn K cd20 "is_whole" = true) (k20 : PySem.W.keepIn K (.ref f20) = true)
    (a21 : PySem.W.nsIn K mainGlobals "as_kind" = some (some (.ref f21)))
    (l21 : K.lookup f21 = some ⟨oc21, od21, .func (PySem.W.fnOf "as_kind" "as_kind" (defArgs stas_kind) (defBody stas_kind) (defScope stas_kind) .none kV21 dc21 pm21 an21 cd21 ct21), sl21⟩) (c21 : PySem.W.codeIn K cd21 "as_kind" = true) (k21 : PySem.W.keepIn K (.ref f21) = true)
    (a22 : PySem.W.nsIn K mainGlobals "of_nothing" = some (some (.ref f22)))
    (l22 : K.lookup f22 = some ⟨oc22, od22, .func (PySem.W.fnOf "of_nothing" "of_nothing" (defArgs stof_nothing) (defBody stof_nothing) (defScope stof_nothing) .none kV22 dc22 pm22 an22 cd22 ct22), sl22⟩) (c22 : PySem.W.codeIn K cd22 "of_nothing" = true) (k22 : PySem.W.keepIn K (.ref f22) = true)
    (a23 : PySem.W.nsIn K mainGlobals "of_marks" = some (some (.ref f23)))
    (l23 : K.lookup f23 = some ⟨oc23, od23, .func (PySem.W.fnOf "of_marks" "of_marks" (defArgs stof_marks) (defBody stof_marks) (defScope stof_marks) .none kV23 dc23 pm23 an23 cd23 ct23), sl23⟩) (c23 : PySem.W.codeIn K cd23 "of_marks" = true) (k23 : PySem.W.keepIn K (.ref f23) = true)
    (a24 : PySem.W.nsIn K mainGlobals "of_truth" = some (some (.ref f24)))
    (l24 : K.lookup f24 = some ⟨oc24, od24, .func (PySem.W.fnOf "of_truth" "of_truth" (defArgs stof_truth) (defBody stof_truth) (defScope stof_truth) .none kV24 dc24 pm24 an24 cd24 ct24), sl24⟩) (c24 : PySem.W.codeIn K cd24 "of_truth" = true) (k24 : PySem.W.keepIn K (.ref f24) = true)
    (a25 : PySem.W.nsIn K mainGlobals "of_truths" = some (some (.ref f25)))
    (l25 : K.lookup f25 = some ⟨oc25, od25, .func (PySem.W.fnOf "of_truths" "of_truths" (defArgs stof_truths) (defBody stof_truths) (defScope stof_truths) .none kV25 dc25 pm25 an25 cd25 ct25), sl25⟩) (c25 : PySem.W.codeIn K cd25 "of_truths" = true) (k25 : PySem.W.keepIn K (.ref f25) = true)
    (a26 : PySem.W.nsIn K mainGlobals "of_alike" = some (some (.ref f26)))
    (l26 : K.lookup f26 = some ⟨oc26, od26, .func (PySem.W.fnOf "of_alike" "of_alike" (defArgs stof_alike) (defBody stof_alike) (defScope stof_alike) .none kV26 dc26 pm26 an26 cd26 ct26), sl26⟩) (c26 : PySem.W.codeIn K cd26 "of_alike" = true) (k26 : PySem.W.keepIn K (.ref f26) = true)
    (a27 : PySem.W.nsIn K mainGlobals "of_words" = some (some (.ref f27)))
    (l27 : K.lookup f27 = some ⟨oc27, od27, .func (PySem.W.fnOf "of_words" "of_words" (defArgs stof_words) (defBody stof_words) (defScope stof_words) .none kV27 dc27 pm27 an27 cd27 ct27), sl27⟩) (c27 : PySem.W.codeIn K cd27 "of_words" = true) (k27 : PySem.W.keepIn K (.ref f27) = true)
    (a28 : PySem.W.nsIn K mainGlobals "of_less" = some (some (.ref f28)))
    (l28 : K.lookup f28 = some ⟨oc28, od28, .func (PySem.W.fnOf "of_less" "of_less" (defArgs stof_less) (defBody stof_less) (defScope stof_less) .none kV28 dc28 pm28 an28 cd28 ct28), sl28⟩) (c28 : PySem.W.codeIn K cd28 "of_less" = true) (k28 : PySem.W.keepIn K (.ref f28) = true)
    (a29 : PySem.W.nsIn K mainGlobals "of_choice" = some (some (.ref f29)))
    (l29 : K.lookup f29 = some ⟨oc29, od29, .func (PySem.W.fnOf "of_choice" "of_choice" (defArgs stof_choice) (defBody stof_choice) (defScope stof_choice) .none kV29 dc29 pm29 an29 cd29 ct29), sl29⟩) (c29 : PySem.W.codeIn K cd29 "of_choice" = true) (k29 : PySem.W.keepIn K (.ref f29) = true)
    (a30 : PySem.W.nsIn K mainGlobals "of_word" = some (some (.ref f30)))
    (l30 : K.lookup f30 = some ⟨oc30, od30, .func (PySem.W.fnOf "of_word" "of_word" (defArgs stof_word) (defBody stof_word) (defScope stof_word) .none kV30 dc30 pm30 an30 cd30 ct30), sl30⟩) (c30 : PySem.W.codeIn K cd30 "of_word" = true) (k30 : PySem.W.keepIn K (.ref f30) = true)
    (a31 : PySem.W.nsIn K mainGlobals "of_joined" = some (some (.ref f31)))
    (l31 : K.lookup f31 = some ⟨oc31, od31, .func (PySem.W.fnOf "of_joined" "of_joined" (defArgs stof_joined) (defBody stof_joined) (defScope stof_joined) .none kV31 dc31 pm31 an31 cd31 ct31), sl31⟩) (c31 : PySem.W.codeIn K cd31 "of_joined" = true) (k31 : PySem.W.keepIn K (.ref f31) = true)
    (a32 : PySem.W.nsIn K mainGlobals "of_cut" = some (some (.ref f32)))
    (l32 : K.lookup f32 = some ⟨oc32, od32, .func (PySem.W.fnOf "of_cut" "of_cut" (defArgs stof_cut) (defBody stof_cut) (defScope stof_cut) .none kV32 dc32 pm32 an32 cd32 ct32), sl32⟩) (c32 : PySem.W.codeIn K cd32 "of_cut" = true) (k32 : PySem.W.keepIn K (.ref f32) = true)
    (a33 : PySem.W.nsIn K mainGlobals "of_read" = some (some (.ref f33)))
    (l33 : K.lookup f33 = some ⟨oc33, od33, .func (PySem.W.fnOf "of_read" "of_read" (defArgs stof_read) (defBody stof_read) (defScope stof_read) .none kV33 dc33 pm33 an33 cd33 ct33), sl33⟩) (c33 : PySem.W.codeIn K cd33 "of_read" = true) (k33 : PySem.W.keepIn K (.ref f33) = true)
    (a34 : PySem.W.nsIn K mainGlobals "of_written" = some (some (.ref f34)))
    (l34 : K.lookup f34 = some ⟨oc34, od34, .func (PySem.W.fnOf "of_written" "of_written" (defArgs stof_written) (defBody stof_written) (defScope stof_written) .none kV34 dc34 pm34 an34 cd34 ct34), sl34⟩) (c34 : PySem.W.codeIn K cd34 "of_written" = true) (k34 : PySem.W.keepIn K (.ref f34) = true)
    (a35 : PySem.W.nsIn K mainGlobals "kind_by" = some (some (.ref f35)))
    (l35 : K.lookup f35 = some ⟨oc35, od35, .func (PySem.W.fnOf "kind_by" "kind_by" (defArgs stkind_by) (defBody stkind_by) (defScope stkind_by) .none kV35 dc35 pm35 an35 cd35 ct35), sl35⟩) (c35 : PySem.W.codeIn K cd35 "kind_by" = true) (k35 : PySem.W.keepIn K (.ref f35) = true)
    (a36 : PySem.W.nsIn K mainGlobals "is_name" = some (some (.ref f36)))
    (l36 : K.lookup f36 = some ⟨oc36, od36, .func (PySem.W.fnOf "is_name" "is_name" (defArgs stis_name) (defBody stis_name) (defScope stis_name) .none kV36 dc36 pm36 an36 cd36 ct36), sl36⟩) (c36 : PySem.W.codeIn K cd36 "is_name" = true) (k36 : PySem.W.keepIn K (.ref f36) = true)
    (a37 : PySem.W.nsIn K mainGlobals "need_term" = some (some (.ref f37)))
    (l37 : K.lookup f37 = some ⟨oc37, od37, .func (PySem.W.fnOf "need_term" "need_term" (defArgs stneed_term) (defBody stneed_term) (defScope stneed_term) .none kV37 dc37 pm37 an37 cd37 ct37), sl37⟩) (c37 : PySem.W.codeIn K cd37 "need_term" = true) (k37 : PySem.W.keepIn K (.ref f37) = true)
    (a38 : PySem.W.nsIn K mainGlobals "put_in" = some (some (.ref f38)))
    (l38 : K.lookup f38 = some ⟨oc38, od38, .func (PySem.W.fnOf "put_in" "put_in" (defArgs stput_in) (defBody stput_in) (defScope stput_in) .none kV38 dc38 pm38 an38 cd38 ct38), sl38⟩) (c38 : PySem.W.codeIn K cd38 "put_in" = true) (k38 : PySem.W.keepIn K (.ref f38) = true)
    (a39 : PySem.W.findIn K (.ref C0) "__init__" = some (some (.ref f39))) (i39 : PySem.W.isFn K (.ref f39) = true)
    (l39 : K.lookup f39 = some ⟨oc39, od39, .func (PySem.W.fnOf "__init__" "Bank.__init__" (defArgs stBank_DinitD) (defBody stBank_DinitD) (defScope stBank_DinitD) .none kV39 dc39 pm39 an39 cd39 ct39), sl39⟩) (c39 : PySem.W.codeIn K cd39 "Bank.__init__" = true) (k39 : PySem.W.keepIn K (.ref f39) = true)
    (a40 : PySem.W.findIn K (.ref C0) "make" = some (some (.ref f40))) (i40 : PySem.W.isFn K (.ref f40) = true)
    (l40 : K.lookup f40 = some ⟨oc40, od40, .func (PySem.W.fnOf "make" "Bank.make" (defArgs stBank_make) (defBody stBank_make) (defScope stBank_make) (.ref kT40) (.ref kD40) dc40 pm40 an40 cd40 ct40), sl40⟩) (c40 : PySem.W.codeIn K cd40 "Bank.make" = true) (k40 : PySem.W.keepIn K (.ref f40) = true)
    (q40 : K.lookup kT40 = some ⟨.type "tuple", ox40, .seq #[.ref kE40] tn40, sx40⟩) (t40 : K.lookup kE40 = some ⟨.type "tuple", oy40, .seq #[] tm40, sy40⟩) (p40 : PySem.W.nsIn K kD40 "marks" = some (some (.ref kM40))) (u40 : K.lookup kM40 = some ⟨.type "tuple", oz40, .seq #[] tz40, sz40⟩)
    (a41 : PySem.W.findIn K (.ref C0) "name" = some (some (.ref f41))) (i41 : PySem.W.isFn K (.ref f41) = true)
    (l41 : K.lookup f41 = some ⟨oc41, od41, .func (PySem.W.fnOf "name" "Bank.name" (defArgs stBank_name) (defBody stBank_name) (defScope stBank_name) .none kV41 dc41 pm41 an41 cd41 ct41), sl41⟩) (c41 : PySem.W.codeIn K cd41 "Bank.name" = true) (k41 : PySem.W.keepIn K (.ref f41) = true)
    (a42 : PySem.W.findIn K (.ref C0) "kind" = some (some (.ref f42))) (i42 : PySem.W.isFn K (.ref f42) = true)
    (l42 : K.lookup f42 = some ⟨oc42, od42, .func (PySem.W.fnOf "kind" "Bank.kind" (defArgs stBank_kind) (defBody stBank_kind) (defScope stBank_kind) .none kV42 dc42 pm42 an42 cd42 ct42), sl42⟩) (c42 : PySem.W.codeIn K cd42 "Bank.kind" = true) (k42 : PySem.W.keepIn K (.ref f42) = true)
    (a43 : PySem.W.findIn K (.ref C0) "node" = some (some (.ref f43))) (i43 : PySem.W.isFn K (.ref f43) = true)
    (l43 : K.lookup f43 = some ⟨oc43, od43, .func (PySem.W.fnOf "node" "Bank.node" (defArgs stBank_node) (defBody stBank_node) (defScope stBank_node) .none kV43 dc43 pm43 an43 cd43 ct43), sl43⟩) (c43 : PySem.W.codeIn K cd43 "Bank.node" = true) (k43 : PySem.W.keepIn K (.ref f43) = true)
    (a44 : PySem.W.findIn K (.ref C0) "names" = some (some (.ref f44))) (i44 : PySem.W.isFn K (.ref f44) = true)
    (l44 : K.lookup f44 = some ⟨oc44, od44, .func (PySem.W.fnOf "names" "Bank.names" (defArgs stBank_names) (defBody stBank_names) (defScope stBank_names) .none kV44 dc44 pm44 an44 cd44 ct44), sl44⟩) (c44 : PySem.W.codeIn K cd44 "Bank.names" = true) (k44 : PySem.W.keepIn K (.ref f44) = true)
    (a45 : PySem.W.nsIn K mainGlobals "_law_spring" = some (some (.ref f45)))
    (l45 : K.lookup f45 = some ⟨oc45, od45, .func (PySem.W.fnOf "_law_spring" "_law_spring" (defArgs st_law_spring) (defBody st_law_spring) (defScope st_law_spring) .none kV45 dc45 pm45 an45 cd45 ct45), sl45⟩) (c45 : PySem.W.codeIn K cd45 "_law_spring" = true) (k45 : PySem.W.keepIn K (.ref f45) = true)
    (a46 : PySem.W.nsIn K mainGlobals "_law_draw" = some (some (.ref f46)))
    (l46 : K.lookup f46 = some ⟨oc46, od46, .func (PySem.W.fnOf "_law_draw" "_law_draw" (defArgs st_law_draw) (defBody st_law_draw) (defScope st_law_draw) .none kV46 dc46 pm46 an46 cd46 ct46), sl46⟩) (c46 : PySem.W.codeIn K cd46 "_law_draw" = true) (k46 : PySem.W.keepIn K (.ref f46) = true)
    (a47 : PySem.W.nsIn K mainGlobals "_law_words" = some (some (.ref f47)))
    (l47 : K.lookup f47 = some ⟨oc47, od47, .func (PySem.W.fnOf "_law_words" "_law_words" (defArgs st_law_words) (defBody st_law_words) (defScope st_law_words) .none kV47 dc47 pm47 an47 cd47 ct47), sl47⟩) (c47 : PySem.W.codeIn K cd47 "_law_words" = true) (k47 : PySem.W.keepIn K (.ref f47) = true)
    (a48 : PySem.W.nsIn K mainGlobals "_law_signs" = some (some (.ref f48)))
    (l48 : K.lookup f48 = some ⟨oc48, od48, .func (PySem.W.fnOf "_law_signs" "_law_signs" (defArgs st_law_signs) (defBody st_law_signs) (defScope st_law_signs) .none kV48 dc48 pm48 an48 cd48 ct48), sl48⟩) (c48 : PySem.W.codeIn K cd48 "_law_signs" = true) (k48 : PySem.W.keepIn K (.ref f48) = true)
    (a49 : PySem.W.nsIn K mainGlobals "_law_number" = some (some (.ref f49)))
    (l49 : K.lookup f49 = some ⟨oc49, od49, .func (PySem.W.fnOf "_law_number" "_law_number" (defArgs st_law_number) (defBody st_law_number) (defScope st_law_number) .none kV49 dc49 pm49 an49 cd49 ct49), sl49⟩) (c49 : PySem.W.codeIn K cd49 "_law_number" = true) (k49 : PySem.W.keepIn K (.ref f49) = true)
    (a50 : PySem.W.nsIn K mainGlobals "_law_whole" = some (some (.ref f50)))
    (l50 : K.lookup f50 = some ⟨oc50, od50, .func (PySem.W.fnOf "_law_whole" "_law_whole" (defArgs st_law_whole) (defBody st_law_whole) (defScope st_law_whole) .none kV50 dc50 pm50 an50 cd50 ct50), sl50⟩) (c50 : PySem.W.codeIn K cd50 "_law_whole" = true) (k50 : PySem.W.keepIn K (.ref f50) = true)
    (a51 : PySem.W.nsIn K mainGlobals "all_under" = some (some (.ref f51)))
    (l51 : K.lookup f51 = some ⟨oc51, od51, .func (PySem.W.fnOf "all_under" "all_under" (defArgs stall_under) (defBody stall_under) (defScope stall_under) .none kV51 dc51 pm51 an51 cd51 ct51), sl51⟩) (c51 : PySem.W.codeIn K cd51 "all_under" = true) (k51 : PySem.W.keepIn K (.ref f51) = true)
    (a52 : PySem.W.nsIn K mainGlobals "need_model" = some (some (.ref f52)))
    (l52 : K.lookup f52 = some ⟨oc52, od52, .func (PySem.W.fnOf "need_model" "need_model" (defArgs stneed_model) (defBody stneed_model) (defScope stneed_model) .none kV52 dc52 pm52 an52 cd52 ct52), sl52⟩) (c52 : PySem.W.codeIn K cd52 "need_model" = true) (k52 : PySem.W.keepIn K (.ref f52) = true)
    (a53 : PySem.W.nsIn K mainGlobals "worths_under" = some (some (.ref f53)))
    (l53 : K.lookup f53 = some ⟨oc53, od53, .func (PySem.W.fnOf "worths_under" "worths_under" (defArgs stworths_under) (defBody stworths_under) (defScope stworths_under) .none kV53 dc53 pm53 an53 cd53 ct53), sl53⟩) (c53 : PySem.W.codeIn K cd53 "worths_under" = true) (k53 : PySem.W.keepIn K (.ref f53) = true)
    (a54 : PySem.W.nsIn K mainGlobals "worth_of" = some (some (.ref f54)))
    (l54 : K.lookup f54 = some ⟨oc54, od54, .func (PySem.W.fnOf "worth_of" "worth_of" (defArgs stworth_of) (defBody stworth_of) (defScope stworth_of) .none kV54 dc54 pm54 an54 cd54 ct54), sl54⟩) (c54 : PySem.W.codeIn K cd54 "worth_of" = true) (k54 : PySem.W.keepIn K (.ref f54) = true)
    (a55 : PySem.W.nsIn K mainGlobals "_law_cuts" = some (some (.ref f55)))
    (l55 : K.lookup f55 = some ⟨oc55, od55, .func (PySem.W.fnOf "_law_cuts" "_law_cuts" (defArgs st_law_cuts) (defBody st_law_cuts) (defScope st_law_cuts) .none kV55 dc55 pm55 an55 cd55 ct55), sl55⟩) (c55 : PySem.W.codeIn K cd55 "_law_cuts" = true) (k55 : PySem.W.keepIn K (.ref f55) = true)
    (a56 : PySem.W.nsIn K mainGlobals "_law_chosen" = some (some (.ref f56)))
    (l56 : K.lookup f56 = some ⟨oc56, od56, .func (PySem.W.fnOf "_law_chosen" "_law_chosen" (defArgs st_law_chosen) (defBody st_law_chosen) (defScope st_law_chosen) .none kV56 dc56 pm56 an56 cd56 ct56), sl56⟩) (c56 : PySem.W.codeIn K cd56 "_law_chosen" = true) (k56 : PySem.W.keepIn K (.ref f56) = true)
    (a57 : PySem.W.nsIn K mainGlobals "law" = some (some (.ref f57)))
    (l57 : K.lookup f57 = some ⟨oc57, od57, .func (PySem.W.fnOf "law" "law" (defArgs stlaw) (defBody stlaw) (defScope stlaw) .none kV57 dc57 pm57 an57 cd57 ct57), sl57⟩) (c57 : PySem.W.codeIn K cd57 "law" = true) (k57 : PySem.W.keepIn K (.ref f57) = true)
    (aC0 : PySem.W.nsIn K mainGlobals "Bank" = some (some (.ref C0))) (pg0 : PySem.W.plainGet K C0 Str.empty = true) (hd0 : PySem.W.hasDictIn K C0 = true) (po0 : PySem.W.plainOver K C0 = true) (sa0 : PySem.W.findIn K (.ref C0) "__setattr__" = some (some (.builtin "object.__setattr__"))) (mk0 : PySem.W.makesIn K C0 = true) (kc0 : PySem.W.keepIn K (.ref C0) = true)
    (n0_0 : PySem.W.findIn K (.ref C0) "made" = some none)
    (n0_1 : PySem.W.findIn K (.ref C0) "sorts" = some none)
    (n0_2 : PySem.W.findIn K (.ref C0) "placed" = some none)
    (n0_3 : PySem.W.findIn K (.ref C0) "called" = some none)
    (gg0 : PySem.W.nsIn K mainGlobals "TRUTH_meaning" = some (some (.ref gA0))) (gl0 : K.lookup gA0 = some ⟨.type "tuple", go0, .seq #[.str "truth" gk0] gn0, gs0⟩)
    (gg1 : PySem.W.nsIn K mainGlobals "TRUTH_bank" = some (some (.ref gA1))) (gl1 : K.lookup gA1 = some ⟨.type "tuple", go1, .seq #[.str "truth" gk1] gn1, gs1⟩)
    (gg2 : PySem.W.nsIn K mainGlobals "MOST_BITS" = some (some (.int 8 gk2)))
    (gg3 : PySem.W.nsIn K mainGlobals "MOST_PLACES" = some (some (.int 3 gk3)))
    (gg4 : PySem.W.nsIn K mainGlobals "MOST_LETTERS" = some (some (.int 8 gk4)))
    (gg5 : PySem.W.nsIn K mainGlobals "LETTERS" = some (some (.str "abcdefghijklmnopqrstuvwxyz" gk5)))
    (gt0 : PySem.W.nsIn K mainGlobals "PAIRS" = some (some (.ref T0))) (tl0 : K.lookup T0 = some ⟨.type "dict", none, .dict te0 td0, #[]⟩) (tk0 : PySem.W.KeysLit w.params te0.toList) (ty0 : (T0 == sysModules) = false) (tt0 : EsT te0.toList [("band", f7), ("bor", f8), ("bxor", f9), ("add", f10), ("sub", f11), ("mul", f12), ("div", f2), ("rest", f3), ("shl", f4), ("shr", f6), ("sar", f5), ("less", f13), ("sless", f14)])
    (gt1 : PySem.W.nsIn K mainGlobals "RULES" = some (some (.ref T1))) (tl1 : K.lookup T1 = some ⟨.type "dict", none, .dict te1 td1, #[]⟩) (tk1 : PySem.W.KeysLit w.params te1.toList) (ty1 : (T1 == sysModules) = false) (tt1 : EsT te1.toList [("true", f22), ("false", f22), ("number", f23), ("not", f24), ("and", f25), ("or", f25), ("same", f26), ("less", f28), ("sless", f28), ("choose", f29), ("flip", f30), ("band", f27), ("bor", f27), ("bxor", f27), ("add", f27), ("sub", f27), ("mul", f27), ("div", f27), ("rest", f27), ("shl", f27), ("shr", f27), ("sar", f27), ("join", f31), ("cut", f32), ("read", f33), ("write", f34)])
    (z0 : PySem.W.nsIn K mainGlobals "abs" = some none)
    (z1 : PySem.W.nsIn K mainGlobals "all" = some none)
    (z2 : PySem.W.nsIn K mainGlobals "bool" = some none)
    (z3 : PySem.W.nsIn K mainGlobals "dict" = some none)
    (z4 : PySem.W.nsIn K mainGlobals "int" = some none)
    (z5 : PySem.W.nsIn K mainGlobals "isinstance" = some none)
    (z6 : PySem.W.nsIn K mainGlobals "len" = some none)
    (z7 : PySem.W.nsIn K mainGlobals "list" = some none)
    (z8 : PySem.W.nsIn K mainGlobals "min" = some none)
    (z9 : PySem.W.nsIn K mainGlobals "range" = some none)
    (z10 : PySem.W.nsIn K mainGlobals "sorted" = some none)
    (z11 : PySem.W.nsIn K mainGlobals "str" = some none)
    (z12 : PySem.W.nsIn K mainGlobals "tuple" = some none)
    (z13 : PySem.W.nsIn K mainGlobals "zip" = some none) :
    ∃ fd : FuncData, (∀ (s : Shared) (v : Value), BindsTo s fd ⟨[v], []⟩ [("_law_script", v)]) ∧ ∀ base : Heap, K.In base → base.Ns mainGlobals mg → FnOk l.prog w K mg base CX0 8 fa fd ["_law_script"] (spLaw K) := by
  have e := hfa.symm.trans (PySem.W.mg_of X G a57)
  cases e
  have F0 := fun_mk (st := sttwo_to) l0 c0 k0
  have b0 := F0.binds (ps := ["bits"]) fun _ _ _ _ _ _ us hl => match us, hl with | [_], _ => rfl
  have F1 := fun_mk (st := stas_signed) l1 c1 k1
  have b1 := F1.binds (ps := ["width", "number"]) fun _ _ _ _ _ _ us hl => match us, hl with | [_, _], _ => rfl
  have F2 := fun_mk (st := stdiv_of) l2 c2 k2
  have b2 := F2.binds (ps := ["width", "one", "other"]) fun _ _ _ _ _ _ us hl => match us, hl with | [_, _, _], _ => rfl
  have F3 := fun_mk (st := strest_of) l3 c3 k3
  have b3 := F3.binds (ps := ["width", "one", "other"]) fun _ _ _ _ _ _ us hl => match us, hl with | [_, _, _], _ => rfl
  have F4 := fun_mk (st := stshl_of) l4 c4 k4
  have b4 := F4.binds (ps := ["width", "one", "other"]) fun _ _ _ _ _ _ us hl => match us, hl with | [_, _, _], _ => rfl
  have F5 := fun_mk (st := stsar_of) l5 c5 k5
  have b5 := F5.binds (ps := ["width", "one", "other"]) fun _ _ _ _ _ _ us hl => match us, hl with | [_, _, _], _ => rfl
  have F6 := fun_mk (st := stshr_of) l6 c6 k6
  have b6 := F6.binds (ps := ["width", "one", "other"]) fun _ _ _ _ _ _ us hl => match us, hl with | [_, _, _], _ => rfl
  have F7 := fun_mk (st := stband_of) l7 c7 k7
  have b7 := F7.binds (ps := ["width", "one", "other"]) fun _ _ _ _ _ _ us hl => match us, hl with | [_, _, _], _ => rfl
  have F8 := fun_mk (st := stbor_of) l8 c8 k8
  have b8 := F8.binds (ps := ["width", "one", "other"]) fun _ _ _ _ _ _ us hl => match us, hl with | [_, _, _], _ => rfl
  have F9 := fun_mk (st := stbxor_of) l9 c9 k9
  have b9 := F9.binds (ps := ["width", "one", "other"]) fun _ _ _ _ _ _ us hl => match us, hl with | [_, _, _], _ => rfl
  have F10 := fun_mk (st := stadd_of) l10 c10 k10
  have b10 := F10.binds (ps := ["width", "one", "other"]) fun _ _ _ _ _ _ us hl => match us, hl with | [_, _, _], _ => rfl
  have F11 := fun_mk (st := stsub_of) l11 c11 k11
  have b11 := F11.binds (ps := ["width", "one", "other"]) fun _ _ _ _ _ _ us hl => match us, hl with | [_, _, _], _ => rfl
  have F12 := fun_mk (st := stmul_of) l12 c12 k12
  have b12 := F12.binds (ps := ["width", "one", "other"]) fun _ _ _ _ _ _ us hl => match us, hl with | [_, _, _], _ => rfl
  have F13 := fun_mk (st := stless_of) l13 c13 k13
  have b13 := F13.binds (ps := ["width", "one", "other"]) fun _ _ _ _ _ _ us hl => match us, hl with | [_, _, _], _ => rfl
  have F14 := fun_mk (st := stsless_of) l14 c14 k14
  have b14 := F14.binds (ps := ["width", "one", "other"]) fun _ _ _ _ _ _ us hl => match us, hl with | [_, _, _], _ => rfl
  have F15 := fun_mk (st := stmoved_worth) l15 c15 k15
  have b15 := F15.binds (ps := ["word", "marks", "kinds", "some"]) fun _ _ _ _ _ _ us hl => match us, hl with | [_, _, _, _], _ => rfl
  have F16 := fun_mk (st := stworth_by) l16 c16 k16
  have b16 := F16.binds (ps := ["word", "marks", "kinds", "some"]) fun _ _ _ _ _ _ us hl => match us, hl with | [_, _, _, _], _ => rfl
  have F17 := fun_mk (st := stplain_worth) l17 c17 k17
  have b17 := F17.binds (ps := ["kind"]) fun _ _ _ _ _ _ us hl => match us, hl with | [_], _ => rfl
  have F18 := fun_mk (st := stis_number) l18 c18 k18
  have b18 := F18.binds (ps := ["thing", "bits"]) fun _ _ _ _ _ _ us hl => match us, hl with | [_, _], _ => rfl
  have F19 := fun_mk (st := stis_worth) l19 c19 k19
  have b19 := F19.binds (ps := ["thing", "kind"]) fun _ _ _ _ _ _ us hl => match us, hl with | [_, _], _ => rfl
  have F20 := fun_mk (st := stis_whole) l20 c20 k20
  have b20 := F20.binds (ps := ["thing", "least", "most"]) fun _ _ _ _ _ _ us hl => match us, hl with | [_, _, _], _ => rfl
  have F21 := fun_mk (st := stas_kind) l21 c21 k21
  have b21 := F21.binds (ps := ["thing"]) fun _ _ _ _ _ _ us hl => match us, hl with | [_], _ => rfl
  have F22 := fun_mk (st := stof_nothing) l22 c22 k22
  have b22 := F22.binds (ps := ["kinds", "marks"]) fun _ _ _ _ _ _ us hl => match us, hl with | [_, _], _ => rfl
  have F23 := fun_mk (st := stof_marks) l23 c23 k23
  have b23 := F23.binds (ps := ["kinds", "marks"]) fun _ _ _ _ _ _ us hl => match us, hl with | [_, _], _ => rfl
  have F24 := fun_mk (st := stof_truth) l24 c24 k24
  have b24 := F24.binds (ps := ["kinds", "marks"]) fun _ _ _ _ _ _ us hl => match us, hl with | [_, _], _ => rfl
  have F25 := fun_mk (st := stof_truths) l25 c25 k25
  have b25 := F25.binds (ps := ["kinds", "marks"]) fun _ _ _ _ _ _ us hl => match us, hl with | [_, _], _ => rfl
  have F26 := fun_mk (st := stof_alike) l26 c26 k26
  have b26 := F26.binds (ps := ["kinds", "marks"]) fun _ _ _ _ _ _ us hl => match us, hl with | [_, _], _ => rfl
  have F27 := fun_mk (st := stof_words) l27 c27 k27
  have b27 := F27.binds (ps := ["kinds", "marks"]) fun _ _ _ _ _ _ us hl => match us, hl with | [_, _], _ => rfl
  have F28 := fun_mk (st := stof_less) l28 c28 k28
  have b28 := F28.binds (ps := ["kinds", "marks"]) fun _ _ _ _ _ _ us hl => match us, hl with | [_, _], _ => rfl
  have F29 := fun_mk (st := stof_choice) l29 c29 k29
  have b29 := F29.binds (ps := ["kinds", "marks"]) fun _ _ _ _ _ _ us hl => match us, hl with | [_, _], _ => rfl
  have F30 := fun_mk (st := stof_word) l30 c30 k30
  have b30 := F30.binds (ps := ["kinds", "marks"]) fun _ _ _ _ _ _ us hl => match us, hl with | [_, _], _ => rfl
  have F31 := fun_mk (st := stof_joined) l31 c31 k31
  have b31 := F31.binds (ps := ["kinds", "marks"]) fun _ _ _ _ _ _ us hl => match us, hl with | [_, _], _ => rfl
  have F32 := fun_mk (st := stof_cut) l32 c32 k32
  have b32 := F32.binds (ps := ["kinds", "marks"]) fun _ _ _ _ _ _ us hl => match us, hl with | [_, _], _ => rfl
  have F33 := fun_mk (st := stof_read) l33 c33 k33
  have b33 := F33.binds (ps := ["kinds", "marks"]) fun _ _ _ _ _ _ us hl => match us, hl with | [_, _], _ => rfl
  have F34 := fun_mk (st := stof_written) l34 c34 k34
  have b34 := F34.binds (ps := ["kinds", "marks"]) fun _ _ _ _ _ _ us hl => match us, hl with | [_, _], _ => rfl
  have F35 := fun_mk (st := stkind_by) l35 c35 k35
  have b35 := F35.binds (ps := ["word", "kinds", "marks"]) fun _ _ _ _ _ _ us hl => match us, hl with | [_, _, _], _ => rfl
  have F36 := fun_mk (st := stis_name) l36 c36 k36
  have b36 := F36.binds (ps := ["text"]) fun _ _ _ _ _ _ us hl => match us, hl with | [_], _ => rfl
  have F37 := fun_mk (st := stneed_term) l37 c37 k37
  have b37 := F37.binds (ps := ["bank", "term"]) fun _ _ _ _ _ _ us hl => match us, hl with | [_, _], _ => rfl
  have F38 := fun_mk (st := stput_in) l38 c38 k38
  have b38 := F38.binds (ps := ["bank", "made", "sort"]) fun _ _ _ _ _ _ us hl => match us, hl with | [_, _, _], _ => rfl
  have F39 := fun_mk (st := stBank_DinitD) l39 c39 k39
  have b39 := F39.binds (ps := ["self"]) fun _ _ _ _ _ _ us hl => match us, hl with | [_], _ => rfl
  have F40 : FunD K "make" "Bank.make" (defArgs stBank_make) (defBody stBank_make) (defScope stBank_make) [V.ref kE40] [("marks", V.ref kM40)] f40 (PySem.W.fnOf "make" "Bank.make" (defArgs stBank_make) (defBody stBank_make) (defScope stBank_make) (.ref kT40) (.ref kD40) dc40 pm40 an40 cd40 ct40) := ⟨⟨oc40, od40, .ref kT40, (.ref kD40), dc40, pm40, an40, cd40, ct40, sl40, rfl, l40, c40, .inr ⟨by simp, kT40, _, [.ref kE40], tn40, rfl, q40, rfl, .cons rfl .nil⟩, .inr ⟨kD40, rfl, fun q hq => by simp only [List.mem_singleton] at hq; subst hq; exact ⟨_, p40, rfl⟩⟩⟩, k40⟩
  obtain ⟨it40_2_1, mv40_2_1, b40_2_1⟩ := FunD.kbinds (ps := ["self", "word", "parts", "marks"]) F40 2 ["marks"] [] (fun {α} us its mv ws => us ++ its ++ ws) (by simp) (by simp) (fun q hq => by simpa using hq) (fun r1 r2 r3 r4 => (r1.append r2).append r4) fun _ _ _ _ _ _ _ us its mv ws h1 h2 h3 h4 => match us, its, mv, ws, h1, h2, h3, h4 with | [_, _], [_], [], [_], _, _, _, _ => ⟨_, rfl, rfl⟩
  obtain ⟨it40_3_0, mv40_3_0, b40_3_0⟩ := FunD.kbinds (ps := ["self", "word", "parts", "marks"]) F40 3 [] [("marks", V.ref kM40)] (fun {α} us its mv ws => us ++ ws ++ mv) (by simp) (by simp) (fun q hq => by simpa using hq) (fun r1 r2 r3 r4 => (r1.append r4).append r3) fun _ _ _ _ _ _ _ us its mv ws h1 h2 h3 h4 => match us, its, mv, ws, h1, h2, h3, h4 with | [_, _, _], [_], [_], [], _, _, _, _ => ⟨_, rfl, _, _, _, _, _, _, rfl, rfl, rfl⟩
  obtain ⟨it40_3_1, mv40_3_1, b40_3_1⟩ := FunD.kbinds (ps := ["self", "word", "parts", "marks"]) F40 3 ["marks"] [] (fun {α} us its mv ws => us ++ ws) (by simp) (by simp) (fun q hq => by simpa using hq) (fun r1 r2 r3 r4 => r1.append r4) fun _ _ _ _ _ _ _ us its mv ws h1 h2 h3 h4 => match us, its, mv, ws, h1, h2, h3, h4 with | [_, _, _], [_], [], [_], _, _, _, _ => ⟨_, rfl, rfl⟩
  have F41 := fun_mk (st := stBank_name) l41 c41 k41
  have b41 := F41.binds (ps := ["self", "text", "kind"]) fun _ _ _ _ _ _ us hl => match us, hl with | [_, _, _], _ => rfl
  have F42 := fun_mk (st := stBank_kind) l42 c42 k42
  have b42 := F42.binds (ps := ["self", "term"]) fun _ _ _ _ _ _ us hl => match us, hl with | [_, _], _ => rfl
  have F43 := fun_mk (st := stBank_node) l43 c43 k43
  have b43 := F43.binds (ps := ["self", "term"]) fun _ _ _ _ _ _ us hl => match us, hl with | [_, _], _ => rfl
  have F44 := fun_mk (st := stBank_names) l44 c44 k44
  have b44 := F44.binds (ps := ["self"]) fun _ _ _ _ _ _ us hl => match us, hl with | [_], _ => rfl
  have F45 := fun_mk (st := st_law_spring) l45 c45 k45
  have b45 := F45.binds (ps := ["_law_script"]) fun _ _ _ _ _ _ us hl => match us, hl with | [_], _ => rfl
  have F46 := fun_mk (st := st_law_draw) l46 c46 k46
  have b46 := F46.binds (ps := ["_law_spring_here", "_law_many"]) fun _ _ _ _ _ _ us hl => match us, hl with | [_, _], _ => rfl
  have F47 := fun_mk (st := st_law_words) l47 c47 k47
  have b47 := F47.binds (ps := ["_law_spring_here", "_law_size"]) fun _ _ _ _ _ _ us hl => match us, hl with | [_, _], _ => rfl
  have F48 := fun_mk (st := st_law_signs) l48 c48 k48
  have b48 := F48.binds (ps := ["_law_number_here", "_law_width"]) fun _ _ _ _ _ _ us hl => match us, hl with | [_, _], _ => rfl
  have F49 := fun_mk (st := st_law_number) l49 c49 k49
  have b49 := F49.binds (ps := ["_law_bits"]) fun _ _ _ _ _ _ us hl => match us, hl with | [_], _ => rfl
  have F50 := fun_mk (st := st_law_whole) l50 c50 k50
  have b50 := F50.binds (ps := ["_law_found", "_law_due"]) fun _ _ _ _ _ _ us hl => match us, hl with | [_, _], _ => rfl
  have F51 := fun_mk (st := stall_under) l51 c51 k51
  have b51 := F51.binds (ps := ["bank", "terms"]) fun _ _ _ _ _ _ us hl => match us, hl with | [_, _], _ => rfl
  have F52 := fun_mk (st := stneed_model) l52 c52 k52
  have b52 := F52.binds (ps := ["bank", "model"]) fun _ _ _ _ _ _ us hl => match us, hl with | [_, _], _ => rfl
  have F53 := fun_mk (st := stworths_under) l53 c53 k53
  have b53 := F53.binds (ps := ["bank", "terms", "model"]) fun _ _ _ _ _ _ us hl => match us, hl with | [_, _, _], _ => rfl
  have F54 := fun_mk (st := stworth_of) l54 c54 k54
  have b54 := F54.binds (ps := ["bank", "term", "model"]) fun _ _ _ _ _ _ us hl => match us, hl with | [_, _, _], _ => rfl
  have F55 := fun_mk (st := st_law_cuts) l55 c55 k55
  have b55 := F55.binds (ps := ["_law_bank", "_law_term", "_law_bits", "_law_model"]) fun _ _ _ _ _ _ us hl => match us, hl with | [_, _, _, _], _ => rfl
  have F56 := fun_mk (st := st_law_chosen) l56 c56 k56
  have b56 := F56.binds (ps := ["_law_bank", "_law_term", "_law_other", "_law_numbers", "_law_model"]) fun _ _ _ _ _ _ us hl => match us, hl with | [_, _, _, _, _], _ => rfl
  have F57 := fun_mk (st := stlaw) l57 c57 k57
  have b57 := F57.binds (ps := ["_law_script"]) fun _ _ _ _ _ _ us hl => match us, hl with | [_], _ => rfl
  have T : ClD ⟨K, fun _ => NBank, w⟩ mg ⟨C0, T0, T1, f7, f8, f9, f10, f11, f12, f2, f3, f4, f6, f5, f13, f14, f22, f23, f24, f25, f26, f28, f29, f30, f27, f31, f32, f33, f34⟩ := ⟨⟨⟨pg0, hd0, po0, sa0⟩, rfl, by decide +kernel, fun f hf => by
    simp only [NBank, List.mem_cons, List.not_mem_nil, or_false] at hf
    rcases hf with rfl | rfl | rfl | rfl
    · exact n0_0
    · exact n0_1
    · exact n0_2
    · exact n0_3⟩,
    gl_tup1 (PySem.W.mg_of X G gg0) gl0,
    gl_tup1 (PySem.W.mg_of X G gg1) gl1,
    gl_int (PySem.W.mg_of X G gg2),
    gl_int (PySem.W.mg_of X G gg3),
    gl_int (PySem.W.mg_of X G gg4),
    gl_str (PySem.W.mg_of X G gg5),
    gl_raw (PySem.W.mg_of X G gt0),
    tab_of tl0 tk0 ty0 tt0,
    gl_raw (PySem.W.mg_of X G gt1),
    tab_of tl1 tk1 ty1 tt1⟩
  have B : Bl mg := ⟨PySem.W.mg_none_of X G z0, PySem.W.mg_none_of X G z1, PySem.W.mg_none_of X G z2, PySem.W.mg_none_of X G z3, PySem.W.mg_none_of X G z4, PySem.W.mg_none_of X G z5, PySem.W.mg_none_of X G z6, PySem.W.mg_none_of X G z7, PySem.W.mg_none_of X G z8, PySem.W.mg_none_of X G z9, PySem.W.mg_none_of X G z10, PySem.W.mg_none_of X G z11, PySem.W.mg_none_of X G z12, PySem.W.mg_none_of X G z13⟩
  have U0 : ∀ base, Cal l.prog w ⟨K, fun _ => NBank, w⟩ mg base 1 "two_to" (sptwo_to ⟨C0, T0, T1, f7, f8, f9, f10, f11, f12, f2, f3, f4, f6, f5, f13, f14, f22, f23, f24, f25, f26, f28, f29, f30, f27, f31, f32, f33, f34⟩) := fun base => ⟨_, _, _, fntwo_to (G := ⟨K, fun _ => NBank, w⟩) (c := ⟨C0, T0, T1, f7, f8, f9, f10, f11, f12, f2, f3, f4, f6, f5, f13, f14, f22, f23, f24, f25, f26, f28, f29, f30, f27, f31, f32, f33, f34⟩) rfl B T  F0, PySem.W.mg_of X G a0, k0, b0⟩
  have U1 : ∀ base, Cal l.prog w ⟨K, fun _ => NBank, w⟩ mg base 2 "as_signed" (spas_signed ⟨C0, T0, T1, f7, f8, f9, f10, f11, f12, f2, f3, f4, f6, f5, f13, f14, f22, f23, f24, f25, f26, f28, f29, f30, f27, f31, f32, f33, f34⟩) := fun base => ⟨_, _, _, fnas_signed (G := ⟨K, fun _ => NBank, w⟩) (c := ⟨C0, T0, T1, f7, f8, f9, f10, f11, f12, f2, f3, f4, f6, f5, f13, f14, f22, f23, f24, f25, f26, f28, f29, f30, f27, f31, f32, f33, f34⟩) rfl B T (U0 base) F1, PySem.W.mg_of X G a1, k1, b1⟩
  have U2 : ∀ base, Cal l.prog w ⟨K, fun _ => NBank, w⟩ mg base 2 "div_of" (spdiv_of ⟨C0, T0, T1, f7, f8, f9, f10, f11, f12, f2, f3, f4, f6, f5, f13, f14, f22, f23, f24, f25, f26, f28, f29, f30, f27, f31, f32, f33, f34⟩) := fun base => ⟨_, _, _, fndiv_of (G := ⟨K, fun _ => NBank, w⟩) (c := ⟨C0, T0, T1, f7, f8, f9, f10, f11, f12, f2, f3, f4, f6, f5, f13, f14, f22, f23, f24, f25, f26, f28, f29, f30, f27, f31, f32, f33, f34⟩) rfl B T (U0 base) F2, PySem.W.mg_of X G a2, k2, b2⟩
  have U3 : ∀ base, Cal l.prog w ⟨K, fun _ => NBank, w⟩ mg base 1 "rest_of" (sprest_of ⟨C0, T0, T1, f7, f8, f9, f10, f11, f12, f2, f3, f4, f6, f5, f13, f14, f22, f23, f24, f25, f26, f28, f29, f30, f27, f31, f32, f33, f34⟩) := fun base => ⟨_, _, _, fnrest_of (G := ⟨K, fun _ => NBank, w⟩) (c := ⟨C0, T0, T1, f7, f8, f9, f10, f11, f12, f2, f3, f4, f6, f5, f13, f14, f22, f23, f24, f25, f26, f28, f29, f30, f27, f31, f32, f33, f34⟩) rfl B T  F3, PySem.W.mg_of X G a3, k3, b3⟩
  have U4 : ∀ base, Cal l.prog w ⟨K, fun _ => NBank, w⟩ mg base 2 "shl_of" (spshl_of ⟨C0, T0, T1, f7, f8, f9, f10, f11, f12, f2, f3, f4, f6, f5, f13, f14, f22, f23, f24, f25, f26, f28, f29, f30, f27, f31, f32, f33, f34⟩) := fun base => ⟨_, _, _, fnshl_of (G := ⟨K, fun _ => NBank, w⟩) (c := ⟨C0, T0, T1, f7, f8, f9, f10, f11, f12, f2, f3, f4, f6, f5, f13, f14, f22, f23, f24, f25, f26, f28, f29, f30, f27, f31, f32, f33, f34⟩) rfl B T (U0 base) F4, PySem.W.mg_of X G a4, k4, b4⟩
  have U5 : ∀ base, Cal l.prog w ⟨K, fun _ => NBank, w⟩ mg base 3 "sar_of" (spsar_of ⟨C0, T0, T1, f7, f8, f9, f10, f11, f12, f2, f3, f4, f6, f5, f13, f14, f22, f23, f24, f25, f26, f28, f29, f30, f27, f31, f32, f33, f34⟩) := fun base => ⟨_, _, _, fnsar_of (G := ⟨K, fun _ => NBank, w⟩) (c := ⟨C0, T0, T1, f7, f8, f9, f10, f11, f12, f2, f3, f4, f6, f5, f13, f14, f22, f23, f24, f25, f26, f28, f29, f30, f27, f31, f32, f33, f34⟩) rfl B T (U1 base) (U0 base) F5, PySem.W.mg_of X G a5, k5, b5⟩
  have U6 : ∀ base, Cal l.prog w ⟨K, fun _ => NBank, w⟩ mg base 1 "shr_of" (spshr_of ⟨C0, T0, T1, f7, f8, f9, f10, f11, f12, f2, f3, f4, f6, f5, f13, f14, f22, f23, f24, f25, f26, f28, f29, f30, f27, f31, f32, f33, f34⟩) := fun base => ⟨_, _, _, fnshr_of (G := ⟨K, fun _ => NBank, w⟩) (c := ⟨C0, T0, T1, f7, f8, f9, f10, f11, f12, f2, f3, f4, f6, f5, f13, f14, f22, f23, f24, f25, f26, f28, f29, f30, f27, f31, f32, f33, f34⟩) rfl B T  F6, PySem.W.mg_of X G a6, k6, b6⟩
  have U7 : ∀ base, Cal l.prog w ⟨K, fun _ => NBank, w⟩ mg base 1 "band_of" (spband_of ⟨C0, T0, T1, f7, f8, f9, f10, f11, f12, f2, f3, f4, f6, f5, f13, f14, f22, f23, f24, f25, f26, f28, f29, f30, f27, f31, f32, f33, f34⟩) := fun base => ⟨_, _, _, fnband_of (G := ⟨K, fun _ => NBank, w⟩) (c := ⟨C0, T0, T1, f7, f8, f9, f10, f11, f12, f2, f3, f4, f6, f5, f13, f14, f22, f23, f24, f25, f26, f28, f29, f30, f27, f31, f32, f33, f34⟩) rfl B T  F7, PySem.W.mg_of X G a7, k7, b7⟩
  have U8 : ∀ base, Cal l.prog w ⟨K, fun _ => NBank, w⟩ mg base 1 "bor_of" (spbor_of ⟨C0, T0, T1, f7, f8, f9, f10, f11, f12, f2, f3, f4, f6, f5, f13, f14, f22, f23, f24, f25, f26, f28, f29, f30, f27, f31, f32, f33, f34⟩) := fun base => ⟨_, _, _, fnbor_of (G := ⟨K, fun _ => NBank, w⟩) (c := ⟨C0, T0, T1, f7, f8, f9, f10, f11, f12, f2, f3, f4, f6, f5, f13, f14, f22, f23, f24, f25, f26, f28, f29, f30, f27, f31, f32, f33, f34⟩) rfl B T  F8, PySem.W.mg_of X G a8, k8, b8⟩
  have U9 : ∀ base, Cal l.prog w ⟨K, fun _ => NBank, w⟩ mg base 1 "bxor_of" (spbxor_of ⟨C0, T0, T1, f7, f8, f9, f10, f11, f12, f2, f3, f4, f6, f5, f13, f14, f22, f23, f24, f25, f26, f28, f29, f30, f27, f31, f32, f33, f34⟩) := fun base => ⟨_, _, _, fnbxor_of (G := ⟨K, fun _ => NBank, w⟩) (c := ⟨C0, T0, T1, f7, f8, f9, f10, f11, f12, f2, f3, f4, f6, f5, f13, f14, f22, f23, f24, f25, f26, f28, f29, f30, f27, f31, f32, f33, f34⟩) rfl B T  F9, PySem.W.mg_of X G a9, k9, b9⟩
  have U10 : ∀ base, Cal l.prog w ⟨K, fun _ => NBank, w⟩ mg base 2 "add_of" (spadd_of ⟨C0, T0, T1, f7, f8, f9, f10, f11, f12, f2, f3, f4, f6, f5, f13, f14, f22, f23, f24, f25, f26, f28, f29, f30, f27, f31, f32, f33, f34⟩) := fun base => ⟨_, _, _, fnadd_of (G := ⟨K, fun _ => NBank, w⟩) (c := ⟨C0, T0, T1, f7, f8, f9, f10, f11, f12, f2, f3, f4, f6, f5, f13, f14, f22, f23, f24, f25, f26, f28, f29, f30, f27, f31, f32, f33, f34⟩) rfl B T (U0 base) F10, PySem.W.mg_of X G a10, k10, b10⟩
  have U11 : ∀ base, Cal l.prog w ⟨K, fun _ => NBank, w⟩ mg base 2 "sub_of" (spsub_of ⟨C0, T0, T1, f7, f8, f9, f10, f11, f12, f2, f3, f4, f6, f5, f13, f14, f22, f23, f24, f25, f26, f28, f29, f30, f27, f31, f32, f33, f34⟩) := fun base => ⟨_, _, _, fnsub_of (G := ⟨K, fun _ => NBank, w⟩) (c := ⟨C0, T0, T1, f7, f8, f9, f10, f11, f12, f2, f3, f4, f6, f5, f13, f14, f22, f23, f24, f25, f26, f28, f29, f30, f27, f31, f32, f33, f34⟩) rfl B T (U0 base) F11, PySem.W.mg_of X G a11, k11, b11⟩
  have U12 : ∀ base, Cal l.prog w ⟨K, fun _ => NBank, w⟩ mg base 2 "mul_of" (spmul_of ⟨C0, T0, T1, f7, f8, f9, f10, f11, f12, f2, f3, f4, f6, f5, f13, f14, f22, f23, f24, f25, f26, f28, f29, f30, f27, f31, f32, f33, f34⟩) := fun base => ⟨_, _, _, fnmul_of (G := ⟨K, fun _ => NBank, w⟩) (c := ⟨C0, T0, T1, f7, f8, f9, f10, f11, f12, f2, f3, f4, f6, f5, f13, f14, f22, f23, f24, f25, f26, f28, f29, f30, f27, f31, f32, f33, f34⟩) rfl B T (U0 base) F12, PySem.W.mg_of X G a12, k12, b12⟩
  have U13 : ∀ base, Cal l.prog w ⟨K, fun _ => NBank, w⟩ mg base 1 "less_of" (spless_of ⟨C0, T0, T1, f7, f8, f9, f10, f11, f12, f2, f3, f4, f6, f5, f13, f14, f22, f23, f24, f25, f26, f28, f29, f30, f27, f31, f32, f33, f34⟩) := fun base => ⟨_, _, _, fnless_of (G := ⟨K, fun _ => NBank, w⟩) (c := ⟨C0, T0, T1, f7, f8, f9, f10, f11, f12, f2, f3, f4, f6, f5, f13, f14, f22, f23, f24, f25, f26, f28, f29, f30, f27, f31, f32, f33, f34⟩) rfl B T  F13, PySem.W.mg_of X G a13, k13, b13⟩
  have U14 : ∀ base, Cal l.prog w ⟨K, fun _ => NBank, w⟩ mg base 3 "sless_of" (spsless_of ⟨C0, T0, T1, f7, f8, f9, f10, f11, f12, f2, f3, f4, f6, f5, f13, f14, f22, f23, f24, f25, f26, f28, f29, f30, f27, f31, f32, f33, f34⟩) := fun base => ⟨_, _, _, fnsless_of (G := ⟨K, fun _ => NBank, w⟩) (c := ⟨C0, T0, T1, f7, f8, f9, f10, f11, f12, f2, f3, f4, f6, f5, f13, f14, f22, f23, f24, f25, f26, f28, f29, f30, f27, f31, f32, f33, f34⟩) rfl B T (U1 base) F14, PySem.W.mg_of X G a14, k14, b14⟩
  have U15 : ∀ base, Cal l.prog w ⟨K, fun _ => NBank, w⟩ mg base 2 "moved_worth" (spmoved_worth ⟨C0, T0, T1, f7, f8, f9, f10, f11, f12, f2, f3, f4, f6, f5, f13, f14, f22, f23, f24, f25, f26, f28, f29, f30, f27, f31, f32, f33, f34⟩) := fun base => ⟨_, _, _, fnmoved_worth (G := ⟨K, fun _ => NBank, w⟩) (c := ⟨C0, T0, T1, f7, f8, f9, f10, f11, f12, f2, f3, f4, f6, f5, f13, f14, f22, f23, f24, f25, f26, f28, f29, f30, f27, f31, f32, f33, f34⟩) rfl B T (U0 base) F15, PySem.W.mg_of X G a15, k15, b15⟩
  have ATPAIRS_3 : ∀ base, ∀ q ∈ cbPAIRS ⟨C0, T0, T1, f7, f8, f9, f10, f11, f12, f2, f3, f4, f6, f5, f13, f14, f22, f23, f24, f25, f26, f28, f29, f30, f27, f31, f32, f33, f34⟩, CalT l.prog w ⟨K, fun _ => NBank, w⟩ mg base 3 q.1 q.2 := by
    intro base q hq
    simp only [cbPAIRS, List.mem_cons, List.not_mem_nil, or_false] at hq
    rcases hq with rfl | rfl | rfl | rfl | rfl | rfl | rfl | rfl | rfl | rfl | rfl | rfl | rfl
    · exact ⟨_, _, (FnOk.mono (fnband_of (G := ⟨K, fun _ => NBank, w⟩) (c := ⟨C0, T0, T1, f7, f8, f9, f10, f11, f12, f2, f3, f4, f6, f5, f13, f14, f22, f23, f24, f25, f26, f28, f29, f30, f27, f31, f32, f33, f34⟩) rfl B T  F7) (by decide)), k7, b7⟩
    · exact ⟨_, _, (FnOk.mono (fnbor_of (G := ⟨K, fun _ => NBank, w⟩) (c := ⟨C0, T0, T1, f7, f8, f9, f10, f11, f12, f2, f3, f4, f6, f5, f13, f14, f22, f23, f24, f25, f26, f28, f29, f30, f27, f31, f32, f33, f34⟩) rfl B T  F8) (by decide)), k8, b8⟩
    · exact ⟨_, _, (FnOk.mono (fnbxor_of (G := ⟨K, fun _ => NBank, w⟩) (c := ⟨C0, T0, T1, f7, f8, f9, f10, f11, f12, f2, f3, f4, f6, f5, f13, f14, f22, f23, f24, f25, f26, f28, f29, f30, f27, f31, f32, f33, f34⟩) rfl B T  F9) (by decide)), k9, b9⟩
    · exact ⟨_, _, (FnOk.mono (fnadd_of (G := ⟨K, fun _ => NBank, w⟩) (c := ⟨C0, T0, T1, f7, f8, f9, f10, f11, f12, f2, f3, f4, f6, f5, f13, f14, f22, f23, f24, f25, f26, f28, f29, f30, f27, f31, f32, f33, f34⟩) rfl B T (U0 base) F10) (by decide)), k10, b10⟩
    · exact ⟨_, _, (FnOk.mono (fnsub_of (G := ⟨K, fun _ => NBank, w⟩) (c := ⟨C0, T0, T1, f7, f8, f9, f10, f11, f12, f2, f3, f4, f6, f5, f13, f14, f22, f23, f24, f25, f26, f28, f29, f30, f27, f31, f32, f33, f34⟩) rfl B T (U0 base) F11) (by decide)), k11, b11⟩
    · exact ⟨_, _, (FnOk.mono (fnmul_of (G := ⟨K, fun _ => NBank, w⟩) (c := ⟨C0, T0, T1, f7, f8, f9, f10, f11, f12, f2, f3, f4, f6, f5, f13, f14, f22, f23, f24, f25, f26, f28, f29, f30, f27, f31, f32, f33, f34⟩) rfl B T (U0 base) F12) (by decide)), k12, b12⟩
    · exact ⟨_, _, (FnOk.mono (fndiv_of (G := ⟨K, fun _ => NBank, w⟩) (c := ⟨C0, T0, T1, f7, f8, f9, f10, f11, f12, f2, f3, f4, f6, f5, f13, f14, f22, f23, f24, f25, f26, f28, f29, f30, f27, f31, f32, f33, f34⟩) rfl B T (U0 base) F2) (by decide)), k2, b2⟩
    · exact ⟨_, _, (FnOk.mono (fnrest_of (G := ⟨K, fun _ => NBank, w⟩) (c := ⟨C0, T0, T1, f7, f8, f9, f10, f11, f12, f2, f3, f4, f6, f5, f13, f14, f22, f23, f24, f25, f26, f28, f29, f30, f27, f31, f32, f33, f34⟩) rfl B T  F3) (by decide)), k3, b3⟩
    · exact ⟨_, _, (FnOk.mono (fnshl_of (G := ⟨K, fun _ => NBank, w⟩) (c := ⟨C0, T0, T1, f7, f8, f9, f10, f11, f12, f2, f3, f4, f6, f5, f13, f14, f22, f23, f24, f25, f26, f28, f29, f30, f27, f31, f32, f33, f34⟩) rfl B T (U0 base) F4) (by decide)), k4, b4⟩
    · exact ⟨_, _, (FnOk.mono (fnshr_of (G := ⟨K, fun _ => NBank, w⟩) (c := ⟨C0, T0, T1, f7, f8, f9, f10, f11, f12, f2, f3, f4, f6, f5, f13, f14, f22, f23, f24, f25, f26, f28, f29, f30, f27, f31, f32, f33, f34⟩) rfl B T  F6) (by decide)), k6, b6⟩
    · exact ⟨_, _, (FnOk.mono (fnsar_of (G := ⟨K, fun _ => NBank, w⟩) (c := ⟨C0, T0, T1, f7, f8, f9, f10, f11, f12, f2, f3, f4, f6, f5, f13, f14, f22, f23, f24, f25, f26, f28, f29, f30, f27, f31, f32, f33, f34⟩) rfl B T (U1 base) (U0 base) F5) (by decide)), k5, b5⟩
    · exact ⟨_, _, (FnOk.mono (fnless_of (G := ⟨K, fun _ => NBank, w⟩) (c := ⟨C0, T0, T1, f7, f8, f9, f10, f11, f12, f2, f3, f4, f6, f5, f13, f14, f22, f23, f24, f25, f26, f28, f29, f30, f27, f31, f32, f33, f34⟩) rfl B T  F13) (by decide)), k13, b13⟩
    · exact ⟨_, _, (FnOk.mono (fnsless_of (G := ⟨K, fun _ => NBank, w⟩) (c := ⟨C0, T0, T1, f7, f8, f9, f10, f11, f12, f2, f3, f4, f6, f5, f13, f14, f22, f23, f24, f25, f26, f28, f29, f30, f27, f31, f32, f33, f34⟩) rfl B T (U1 base) F14) (by decide)), k14, b14⟩
  have U16 : ∀ base, Cal l.prog w ⟨K, fun _ => NBank, w⟩ mg base 4 "worth_by" (spworth_by ⟨C0, T0, T1, f7, f8, f9, f10, f11, f12, f2, f3, f4, f6, f5, f13, f14, f22, f23, f24, f25, f26, f28, f29, f30, f27, f31, f32, f33, f34⟩) := fun base => ⟨_, _, _, fnworth_by (G := ⟨K, fun _ => NBank, w⟩) (c := ⟨C0, T0, T1, f7, f8, f9, f10, f11, f12, f2, f3, f4, f6, f5, f13, f14, f22, f23, f24, f25, f26, f28, f29, f30, f27, f31, f32, f33, f34⟩) rfl B T (U0 base) (U15 base) (ATPAIRS_3 base) F16, PySem.W.mg_of X G a16, k16, b16⟩
  have U17 : ∀ base, Cal l.prog w ⟨K, fun _ => NBank, w⟩ mg base 2 "plain_worth" (spplain_worth ⟨C0, T0, T1, f7, f8, f9, f10, f11, f12, f2, f3, f4, f6, f5, f13, f14, f22, f23, f24, f25, f26, f28, f29, f30, f27, f31, f32, f33, f34⟩) := fun base => ⟨_, _, _, fnplain_worth (G := ⟨K, fun _ => NBank, w⟩) (c := ⟨C0, T0, T1, f7, f8, f9, f10, f11, f12, f2, f3, f4, f6, f5, f13, f14, f22, f23, f24, f25, f26, f28, f29, f30, f27, f31, f32, f33, f34⟩) rfl B T (U0 base) F17, PySem.W.mg_of X G a17, k17, b17⟩
  have U18 : ∀ base, Cal l.prog w ⟨K, fun _ => NBank, w⟩ mg base 2 "is_number" (spis_number ⟨C0, T0, T1, f7, f8, f9, f10, f11, f12, f2, f3, f4, f6, f5, f13, f14, f22, f23, f24, f25, f26, f28, f29, f30, f27, f31, f32, f33, f34⟩) := fun base => ⟨_, _, _, fnis_number (G := ⟨K, fun _ => NBank, w⟩) (c := ⟨C0, T0, T1, f7, f8, f9, f10, f11, f12, f2, f3, f4, f6, f5, f13, f14, f22, f23, f24, f25, f26, f28, f29, f30, f27, f31, f32, f33, f34⟩) rfl B T (U0 base) F18, PySem.W.mg_of X G a18, k18, b18⟩
  have U19 : ∀ base, Cal l.prog w ⟨K, fun _ => NBank, w⟩ mg base 3 "is_worth" (spis_worth ⟨C0, T0, T1, f7, f8, f9, f10, f11, f12, f2, f3, f4, f6, f5, f13, f14, f22, f23, f24, f25, f26, f28, f29, f30, f27, f31, f32, f33, f34⟩) := fun base => ⟨_, _, _, fnis_worth (G := ⟨K, fun _ => NBank, w⟩) (c := ⟨C0, T0, T1, f7, f8, f9, f10, f11, f12, f2, f3, f4, f6, f5, f13, f14, f22, f23, f24, f25, f26, f28, f29, f30, f27, f31, f32, f33, f34⟩) rfl B T (U18 base) (U0 base) F19, PySem.W.mg_of X G a19, k19, b19⟩
  have U20 : ∀ base, Cal l.prog w ⟨K, fun _ => NBank, w⟩ mg base 1 "is_whole" (spis_whole ⟨C0, T0, T1, f7, f8, f9, f10, f11, f12, f2, f3, f4, f6, f5, f13, f14, f22, f23, f24, f25, f26, f28, f29, f30, f27, f31, f32, f33, f34⟩) := fun base => ⟨_, _, _, fnis_whole (G := ⟨K, fun _ => NBank, w⟩) (c := ⟨C0, T0, T1, f7, f8, f9, f10, f11, f12, f2, f3, f4, f6, f5, f13, f14, f22, f23, f24, f25, f26, f28, f29, f30, f27, f31, f32, f33, f34⟩) rfl B T  F20, PySem.W.mg_of X G a20, k20, b20⟩
  have U21 : ∀ base, Cal l.prog w ⟨K, fun _ => NBank, w⟩ mg base 2 "as_kind" (spas_kind ⟨C0, T0, T1, f7, f8, f9, f10, f11, f12, f2, f3, f4, f6, f5, f13, f14, f22, f23, f24, f25, f26, f28, f29, f30, f27, f31, f32, f33, f34⟩) := fun base => ⟨_, _, _, fnas_kind (G := ⟨K, fun _ => NBank, w⟩) (c := ⟨C0, T0, T1, f7, f8, f9, f10, f11, f12, f2, f3, f4, f6, f5, f13, f14, f22, f23, f24, f25, f26, f28, f29, f30, f27, f31, f32, f33, f34⟩) rfl B T (U20 base) F21, PySem.W.mg_of X G a21, k21, b21⟩
  have U22 : ∀ base, Cal l.prog w ⟨K, fun _ => NBank, w⟩ mg base 1 "of_nothing" (spof_nothing ⟨C0, T0, T1, f7, f8, f9, f10, f11, f12, f2, f3, f4, f6, f5, f13, f14, f22, f23, f24, f25, f26, f28, f29, f30, f27, f31, f32, f33, f34⟩) := fun base => ⟨_, _, _, fnof_nothing (G := ⟨K, fun _ => NBank, w⟩) (c := ⟨C0, T0, T1, f7, f8, f9, f10, f11, f12, f2, f3, f4, f6, f5, f13, f14, f22, f23, f24, f25, f26, f28, f29, f30, f27, f31, f32, f33, f34⟩) rfl B T  F22, PySem.W.mg_of X G a22, k22, b22⟩
  have U23 : ∀ base, Cal l.prog w ⟨K, fun _ => NBank, w⟩ mg base 2 "of_marks" (spof_marks ⟨C0, T0, T1, f7, f8, f9, f10, f11, f12, f2, f3, f4, f6, f5, f13, f14, f22, f23, f24, f25, f26, f28, f29, f30, f27, f31, f32, f33, f34⟩) := fun base => ⟨_, _, _, fnof_marks (G := ⟨K, fun _ => NBank, w⟩) (c := ⟨C0, T0, T1, f7, f8, f9, f10, f11, f12, f2, f3, f4, f6, f5, f13, f14, f22, f23, f24, f25, f26, f28, f29, f30, f27, f31, f32, f33, f34⟩) rfl B T (U20 base) F23, PySem.W.mg_of X G a23, k23, b23⟩
  have U24 : ∀ base, Cal l.prog w ⟨K, fun _ => NBank, w⟩ mg base 1 "of_truth" (spof_truth ⟨C0, T0, T1, f7, f8, f9, f10, f11, f12, f2, f3, f4, f6, f5, f13, f14, f22, f23, f24, f25, f26, f28, f29, f30, f27, f31, f32, f33, f34⟩) := fun base => ⟨_, _, _, fnof_truth (G := ⟨K, fun _ => NBank, w⟩) (c := ⟨C0, T0, T1, f7, f8, f9, f10, f11, f12, f2, f3, f4, f6, f5, f13, f14, f22, f23, f24, f25, f26, f28, f29, f30, f27, f31, f32, f33, f34⟩) rfl B T  F24, PySem.W.mg_of X G a24, k24, b24⟩
  have U25 : ∀ base, Cal l.prog w ⟨K, fun _ => NBank, w⟩ mg base 1 "of_truths" (spof_truths ⟨C0, T0, T1, f7, f8, f9, f10, f11, f12, f2, f3, f4, f6, f5, f13, f14, f22, f23, f24, f25, f26, f28, f29, f30, f27, f31, f32, f33, f34⟩) := fun base => ⟨_, _, _, fnof_truths (G := ⟨K, fun _ => NBank, w⟩) (c := ⟨C0, T0, T1, f7, f8, f9, f10, f11, f12, f2, f3, f4, f6, f5, f13, f14, f22, f23, f24, f25, f26, f28, f29, f30, f27, f31, f32, f33, f34⟩) rfl B T  F25, PySem.W.mg_of X G a25, k25, b25⟩
  have U26 : ∀ base, Cal l.prog w ⟨K, fun _ => NBank, w⟩ mg base 1 "of_alike" (spof_alike ⟨C0, T0, T1, f7, f8, f9, f10, f11, f12, f2, f3, f4, f6, f5, f13, f14, f22, f23, f24, f25, f26, f28, f29, f30, f27, f31, f32, f33, f34⟩) := fun base => ⟨_, _, _, fnof_alike (G := ⟨K, fun _ => NBank, w⟩) (c := ⟨C0, T0, T1, f7, f8, f9, f10, f11, f12, f2, f3, f4, f6, f5, f13, f14, f22, f23, f24, f25, f26, f28, f29, f30, f27, f31, f32, f33, f34⟩) rfl B T  F26, PySem.W.mg_of X G a26, k26, b26⟩
  have U27 : ∀ base, Cal l.prog w ⟨K, fun _ => NBank, w⟩ mg base 2 "of_words" (spof_words ⟨C0, T0, T1, f7, f8, f9, f10, f11, f12, f2, f3, f4, f6, f5, f13, f14, f22, f23, f24, f25, f26, f28, f29, f30, f27, f31, f32, f33, f34⟩) := fun base => ⟨_, _, _, fnof_words (G := ⟨K, fun _ => NBank, w⟩) (c := ⟨C0, T0, T1, f7, f8, f9, f10, f11, f12, f2, f3, f4, f6, f5, f13, f14, f22, f23, f24, f25, f26, f28, f29, f30, f27, f31, f32, f33, f34⟩) rfl B T (U26 base) F27, PySem.W.mg_of X G a27, k27, b27⟩
  have U28 : ∀ base, Cal l.prog w ⟨K, fun _ => NBank, w⟩ mg base 3 "of_less" (spof_less ⟨C0, T0, T1, f7, f8, f9, f10, f11, f12, f2, f3, f4, f6, f5, f13, f14, f22, f23, f24, f25, f26, f28, f29, f30, f27, f31, f32, f33, f34⟩) := fun base => ⟨_, _, _, fnof_less (G := ⟨K, fun _ => NBank, w⟩) (c := ⟨C0, T0, T1, f7, f8, f9, f10, f11, f12, f2, f3, f4, f6, f5, f13, f14, f22, f23, f24, f25, f26, f28, f29, f30, f27, f31, f32, f33, f34⟩) rfl B T (U27 base) F28, PySem.W.mg_of X G a28, k28, b28⟩
  have U29 : ∀ base, Cal l.prog w ⟨K, fun _ => NBank, w⟩ mg base 2 "of_choice" (spof_choice ⟨C0, T0, T1, f7, f8, f9, f10, f11, f12, f2, f3, f4, f6, f5, f13, f14, f22, f23, f24, f25, f26, f28, f29, f30, f27, f31, f32, f33, f34⟩) := fun base => ⟨_, _, _, fnof_choice (G := ⟨K, fun _ => NBank, w⟩) (c := ⟨C0, T0, T1, f7, f8, f9, f10, f11, f12, f2, f3, f4, f6, f5, f13, f14, f22, f23, f24, f25, f26, f28, f29, f30, f27, f31, f32, f33, f34⟩) rfl B T (U26 base) F29, PySem.W.mg_of X G a29, k29, b29⟩
  have U30 : ∀ base, Cal l.prog w ⟨K, fun _ => NBank, w⟩ mg base 1 "of_word" (spof_word ⟨C0, T0, T1, f7, f8, f9, f10, f11, f12, f2, f3, f4, f6, f5, f13, f14, f22, f23, f24, f25, f26, f28, f29, f30, f27, f31, f32, f33, f34⟩) := fun base => ⟨_, _, _, fnof_word (G := ⟨K, fun _ => NBank, w⟩) (c := ⟨C0, T0, T1, f7, f8, f9, f10, f11, f12, f2, f3, f4, f6, f5, f13, f14, f22, f23, f24, f25, f26, f28, f29, f30, f27, f31, f32, f33, f34⟩) rfl B T  F30, PySem.W.mg_of X G a30, k30, b30⟩
  have U31 : ∀ base, Cal l.prog w ⟨K, fun _ => NBank, w⟩ mg base 1 "of_joined" (spof_joined ⟨C0, T0, T1, f7, f8, f9, f10, f11, f12, f2, f3, f4, f6, f5, f13, f14, f22, f23, f24, f25, f26, f28, f29, f30, f27, f31, f32, f33, f34⟩) := fun base => ⟨_, _, _, fnof_joined (G := ⟨K, fun _ => NBank, w⟩) (c := ⟨C0, T0, T1, f7, f8, f9, f10, f11, f12, f2, f3, f4, f6, f5, f13, f14, f22, f23, f24, f25, f26, f28, f29, f30, f27, f31, f32, f33, f34⟩) rfl B T  F31, PySem.W.mg_of X G a31, k31, b31⟩
  have U32 : ∀ base, Cal l.prog w ⟨K, fun _ => NBank, w⟩ mg base 2 "of_cut" (spof_cut ⟨C0, T0, T1, f7, f8, f9, f10, f11, f12, f2, f3, f4, f6, f5, f13, f14, f22, f23, f24, f25, f26, f28, f29, f30, f27, f31, f32, f33, f34⟩) := fun base => ⟨_, _, _, fnof_cut (G := ⟨K, fun _ => NBank, w⟩) (c := ⟨C0, T0, T1, f7, f8, f9, f10, f11, f12, f2, f3, f4, f6, f5, f13, f14, f22, f23, f24, f25, f26, f28, f29, f30, f27, f31, f32, f33, f34⟩) rfl B T (U30 base) (U20 base) F32, PySem.W.mg_of X G a32, k32, b32⟩
  have U33 : ∀ base, Cal l.prog w ⟨K, fun _ => NBank, w⟩ mg base 1 "of_read" (spof_read ⟨C0, T0, T1, f7, f8, f9, f10, f11, f12, f2, f3, f4, f6, f5, f13, f14, f22, f23, f24, f25, f26, f28, f29, f30, f27, f31, f32, f33, f34⟩) := fun base => ⟨_, _, _, fnof_read (G := ⟨K, fun _ => NBank, w⟩) (c := ⟨C0, T0, T1, f7, f8, f9, f10, f11, f12, f2, f3, f4, f6, f5, f13, f14, f22, f23, f24, f25, f26, f28, f29, f30, f27, f31, f32, f33, f34⟩) rfl B T  F33, PySem.W.mg_of X G a33, k33, b33⟩
  have U34 : ∀ base, Cal l.prog w ⟨K, fun _ => NBank, w⟩ mg base 2 "of_written" (spof_written ⟨C0, T0, T1, f7, f8, f9, f10, f11, f12, f2, f3, f4, f6, f5, f13, f14, f22, f23, f24, f25, f26, f28, f29, f30, f27, f31, f32, f33, f34⟩) := fun base => ⟨_, _, _, fnof_written (G := ⟨K, fun _ => NBank, w⟩) (c := ⟨C0, T0, T1, f7, f8, f9, f10, f11, f12, f2, f3, f4, f6, f5, f13, f14, f22, f23, f24, f25, f26, f28, f29, f30, f27, f31, f32, f33, f34⟩) rfl B T (U33 base) F34, PySem.W.mg_of X G a34, k34, b34⟩
  have ATRULES_3 : ∀ base, ∀ q ∈ cbRULES ⟨C0, T0, T1, f7, f8, f9, f10, f11, f12, f2, f3, f4, f6, f5, f13, f14, f22, f23, f24, f25, f26, f28, f29, f30, f27, f31, f32, f33, f34⟩, CalT l.prog w ⟨K, fun _ => NBank, w⟩ mg base 3 q.1 q.2 := by
    intro base q hq
    simp only [cbRULES, List.mem_cons, List.not_mem_nil, or_false] at hq
    rcases hq with rfl | rfl | rfl | rfl | rfl | rfl | rfl | rfl | rfl | rfl | rfl | rfl | rfl
    · exact ⟨_, _, (FnOk.mono (fnof_nothing (G := ⟨K, fun _ => NBank, w⟩) (c := ⟨C0, T0, T1, f7, f8, f9, f10, f11, f12, f2, f3, f4, f6, f5, f13, f14, f22, f23, f24, f25, f26, f28, f29, f30, f27, f31, f32, f33, f34⟩) rfl B T  F22) (by decide)), k22, b22⟩
    · exact ⟨_, _, (FnOk.mono (fnof_marks (G := ⟨K, fun _ => NBank, w⟩) (c := ⟨C0, T0, T1, f7, f8, f9, f10, f11, f12, f2, f3, f4, f6, f5, f13, f14, f22, f23, f24, f25, f26, f28, f29, f30, f27, f31, f32, f33, f34⟩) rfl B T (U20 base) F23) (by decide)), k23, b23⟩
    · exact ⟨_, _, (FnOk.mono (fnof_truth (G := ⟨K, fun _ => NBank, w⟩) (c := ⟨C0, T0, T1, f7, f8, f9, f10, f11, f12, f2, f3, f4, f6, f5, f13, f14, f22, f23, f24, f25, f26, f28, f29, f30, f27, f31, f32, f33, f34⟩) rfl B T  F24) (by decide)), k24, b24⟩
    · exact ⟨_, _, (FnOk.mono (fnof_truths (G := ⟨K, fun _ => NBank, w⟩) (c := ⟨C0, T0, T1, f7, f8, f9, f10, f11, f12, f2, f3, f4, f6, f5, f13, f14, f22, f23, f24, f25, f26, f28, f29, f30, f27, f31, f32, f33, f34⟩) rfl B T  F25) (by decide)), k25, b25⟩
    · exact ⟨_, _, (FnOk.mono (fnof_alike (G := ⟨K, fun _ => NBank, w⟩) (c := ⟨C0, T0, T1, f7, f8, f9, f10, f11, f12, f2, f3, f4, f6, f5, f13, f14, f22, f23, f24, f25, f26, f28, f29, f30, f27, f31, f32, f33, f34⟩) rfl B T  F26) (by decide)), k26, b26⟩
    · exact ⟨_, _, (FnOk.mono (fnof_less (G := ⟨K, fun _ => NBank, w⟩) (c := ⟨C0, T0, T1, f7, f8, f9, f10, f11, f12, f2, f3, f4, f6, f5, f13, f14, f22, f23, f24, f25, f26, f28, f29, f30, f27, f31, f32, f33, f34⟩) rfl B T (U27 base) F28) (by decide)), k28, b28⟩
    · exact ⟨_, _, (FnOk.mono (fnof_choice (G := ⟨K, fun _ => NBank, w⟩) (c := ⟨C0, T0, T1, f7, f8, f9, f10, f11, f12, f2, f3, f4, f6, f5, f13, f14, f22, f23, f24, f25, f26, f28, f29, f30, f27, f31, f32, f33, f34⟩) rfl B T (U26 base) F29) (by decide)), k29, b29⟩
    · exact ⟨_, _, (FnOk.mono (fnof_word (G := ⟨K, fun _ => NBank, w⟩) (c := ⟨C0, T0, T1, f7, f8, f9, f10, f11, f12, f2, f3, f4, f6, f5, f13, f14, f22, f23, f24, f25, f26, f28, f29, f30, f27, f31, f32, f33, f34⟩) rfl B T  F30) (by decide)), k30, b30⟩
    · exact ⟨_, _, (FnOk.mono (fnof_words (G := ⟨K, fun _ => NBank, w⟩) (c := ⟨C0, T0, T1, f7, f8, f9, f10, f11, f12, f2, f3, f4, f6, f5, f13, f14, f22, f23, f24, f25, f26, f28, f29, f30, f27, f31, f32, f33, f34⟩) rfl B T (U26 base) F27) (by decide)), k27, b27⟩
    · exact ⟨_, _, (FnOk.mono (fnof_joined (G := ⟨K, fun _ => NBank, w⟩) (c := ⟨C0, T0, T1, f7, f8, f9, f10, f11, f12, f2, f3, f4, f6, f5, f13, f14, f22, f23, f24, f25, f26, f28, f29, f30, f27, f31, f32, f33, f34⟩) rfl B T  F31) (by decide)), k31, b31⟩
    · exact ⟨_, _, (FnOk.mono (fnof_cut (G := ⟨K, fun _ => NBank, w⟩) (c := ⟨C0, T0, T1, f7, f8, f9, f10, f11, f12, f2, f3, f4, f6, f5, f13, f14, f22, f23, f24, f25, f26, f28, f29, f30, f27, f31, f32, f33, f34⟩) rfl B T (U30 base) (U20 base) F32) (by decide)), k32, b32⟩
    · exact ⟨_, _, (FnOk.mono (fnof_read (G := ⟨K, fun _ => NBank, w⟩) (c := ⟨C0, T0, T1, f7, f8, f9, f10, f11, f12, f2, f3, f4, f6, f5, f13, f14, f22, f23, f24, f25, f26, f28, f29, f30, f27, f31, f32, f33, f34⟩) rfl B T  F33) (by decide)), k33, b33⟩
    · exact ⟨_, _, (FnOk.mono (fnof_written (G := ⟨K, fun _ => NBank, w⟩) (c := ⟨C0, T0, T1, f7, f8, f9, f10, f11, f12, f2, f3, f4, f6, f5, f13, f14, f22, f23, f24, f25, f26, f28, f29, f30, f27, f31, f32, f33, f34⟩) rfl B T (U33 base) F34) (by decide)), k34, b34⟩
  have U35 : ∀ base, Cal l.prog w ⟨K, fun _ => NBank, w⟩ mg base 4 "kind_by" (spkind_by ⟨C0, T0, T1, f7, f8, f9, f10, f11, f12, f2, f3, f4, f6, f5, f13, f14, f22, f23, f24, f25, f26, f28, f29, f30, f27, f31, f32, f33, f34⟩) := fun base => ⟨_, _, _, fnkind_by (G := ⟨K, fun _ => NBank, w⟩) (c := ⟨C0, T0, T1, f7, f8, f9, f10, f11, f12, f2, f3, f4, f6, f5, f13, f14, f22, f23, f24, f25, f26, f28, f29, f30, f27, f31, f32, f33, f34⟩) rfl B T (ATRULES_3 base) F35, PySem.W.mg_of X G a35, k35, b35⟩
  have U36 : ∀ base, Cal l.prog w ⟨K, fun _ => NBank, w⟩ mg base 1 "is_name" (spis_name ⟨C0, T0, T1, f7, f8, f9, f10, f11, f12, f2, f3, f4, f6, f5, f13, f14, f22, f23, f24, f25, f26, f28, f29, f30, f27, f31, f32, f33, f34⟩) := fun base => ⟨_, _, _, fnis_name (G := ⟨K, fun _ => NBank, w⟩) (c := ⟨C0, T0, T1, f7, f8, f9, f10, f11, f12, f2, f3, f4, f6, f5, f13, f14, f22, f23, f24, f25, f26, f28, f29, f30, f27, f31, f32, f33, f34⟩) rfl B T  F36, PySem.W.mg_of X G a36, k36, b36⟩
  have U37 : ∀ base, Cal l.prog w ⟨K, fun _ => NBank, w⟩ mg base 2 "need_term" (spneed_term ⟨C0, T0, T1, f7, f8, f9, f10, f11, f12, f2, f3, f4, f6, f5, f13, f14, f22, f23, f24, f25, f26, f28, f29, f30, f27, f31, f32, f33, f34⟩) := fun base => ⟨_, _, _, fnneed_term (G := ⟨K, fun _ => NBank, w⟩) (c := ⟨C0, T0, T1, f7, f8, f9, f10, f11, f12, f2, f3, f4, f6, f5, f13, f14, f22, f23, f24, f25, f26, f28, f29, f30, f27, f31, f32, f33, f34⟩) rfl B T (U20 base) F37, PySem.W.mg_of X G a37, k37, b37⟩
  have U38 : ∀ base, Cal l.prog w ⟨K, fun _ => NBank, w⟩ mg base 1 "put_in" (spput_in ⟨C0, T0, T1, f7, f8, f9, f10, f11, f12, f2, f3, f4, f6, f5, f13, f14, f22, f23, f24, f25, f26, f28, f29, f30, f27, f31, f32, f33, f34⟩) := fun base => ⟨_, _, _, fnput_in (G := ⟨K, fun _ => NBank, w⟩) (c := ⟨C0, T0, T1, f7, f8, f9, f10, f11, f12, f2, f3, f4, f6, f5, f13, f14, f22, f23, f24, f25, f26, f28, f29, f30, f27, f31, f32, f33, f34⟩) rfl B T  F38, PySem.W.mg_of X G a38, k38, b38⟩
  have U39 : ∀ base, CalI l.prog w ⟨K, fun _ => NBank, w⟩ mg base 1 C0 "Bank" (spBank_DinitD ⟨C0, T0, T1, f7, f8, f9, f10, f11, f12, f2, f3, f4, f6, f5, f13, f14, f22, f23, f24, f25, f26, f28, f29, f30, f27, f31, f32, f33, f34⟩) := fun base => ⟨_, _, _, fnBank_DinitD (G := ⟨K, fun _ => NBank, w⟩) (c := ⟨C0, T0, T1, f7, f8, f9, f10, f11, f12, f2, f3, f4, f6, f5, f13, f14, f22, f23, f24, f25, f26, f28, f29, f30, f27, f31, f32, f33, f34⟩) rfl B T  F39, ⟨mk0, a39, i39, kc0⟩, PySem.W.mg_of X G aC0, b39⟩
  have UG40_2_1 : ∀ base, CalG l.prog w ⟨K, fun _ => NBank, w⟩ mg base 5 C0 NBank "make" 2 ["marks"] [(.tup [])] [] (spBank_make ⟨C0, T0, T1, f7, f8, f9, f10, f11, f12, f2, f3, f4, f6, f5, f13, f14, f22, f23, f24, f25, f26, f28, f29, f30, f27, f31, f32, f33, f34⟩) := fun base => ⟨T.Bank, by decide +kernel, _, _, _, _, _, fnBank_make (G := ⟨K, fun _ => NBank, w⟩) (c := ⟨C0, T0, T1, f7, f8, f9, f10, f11, f12, f2, f3, f4, f6, f5, f13, f14, f22, f23, f24, f25, f26, f28, f29, f30, f27, f31, f32, f33, f34⟩) rfl B T (U37 base) (U35 base) (U38 base) F40, ⟨a40, i40, k40⟩, b40_2_1, fun W H ds vs zs us r1 r2 => by
    rw [List.append_nil]
    exact (r1.append (rp_nil t40)).append r2⟩
  have UG40_3_0 : ∀ base, CalG l.prog w ⟨K, fun _ => NBank, w⟩ mg base 5 C0 NBank "make" 3 [] [] [(.tup [])] (spBank_make ⟨C0, T0, T1, f7, f8, f9, f10, f11, f12, f2, f3, f4, f6, f5, f13, f14, f22, f23, f24, f25, f26, f28, f29, f30, f27, f31, f32, f33, f34⟩) := fun base => ⟨T.Bank, by decide +kernel, _, _, _, _, _, fnBank_make (G := ⟨K, fun _ => NBank, w⟩) (c := ⟨C0, T0, T1, f7, f8, f9, f10, f11, f12, f2, f3, f4, f6, f5, f13, f14, f22, f23, f24, f25, f26, f28, f29, f30, f27, f31, f32, f33, f34⟩) rfl B T (U37 base) (U35 base) (U38 base) F40, ⟨a40, i40, k40⟩, b40_3_0, fun W H ds vs zs us r1 r2 => by
    rw [List.append_nil]
    exact (r1.append r2).append (rp_nil u40)⟩
  have UG40_3_1 : ∀ base, CalG l.prog w ⟨K, fun _ => NBank, w⟩ mg base 5 C0 NBank "make" 3 ["marks"] [] [] (spBank_make ⟨C0, T0, T1, f7, f8, f9, f10, f11, f12, f2, f3, f4, f6, f5, f13, f14, f22, f23, f24, f25, f26, f28, f29, f30, f27, f31, f32, f33, f34⟩) := fun base => ⟨T.Bank, by decide +kernel, _, _, _, _, _, fnBank_make (G := ⟨K, fun _ => NBank, w⟩) (c := ⟨C0, T0, T1, f7, f8, f9, f10, f11, f12, f2, f3, f4, f6, f5, f13, f14, f22, f23, f24, f25, f26, f28, f29, f30, f27, f31, f32, f33, f34⟩) rfl B T (U37 base) (U35 base) (U38 base) F40, ⟨a40, i40, k40⟩, b40_3_1, fun W H ds vs zs us r1 r2 => by
    rw [List.append_nil, List.append_nil]
    exact r1.append r2⟩
  have U41 : ∀ base, CalM l.prog w ⟨K, fun _ => NBank, w⟩ mg base 3 C0 NBank "name" (spBank_name ⟨C0, T0, T1, f7, f8, f9, f10, f11, f12, f2, f3, f4, f6, f5, f13, f14, f22, f23, f24, f25, f26, f28, f29, f30, f27, f31, f32, f33, f34⟩) := fun base => ⟨T.Bank, by decide +kernel, _, _, _, fnBank_name (G := ⟨K, fun _ => NBank, w⟩) (c := ⟨C0, T0, T1, f7, f8, f9, f10, f11, f12, f2, f3, f4, f6, f5, f13, f14, f22, f23, f24, f25, f26, f28, f29, f30, f27, f31, f32, f33, f34⟩) rfl B T (U21 base) (U36 base) (U38 base) F41, ⟨a41, i41, k41⟩, b41⟩
  have U42 : ∀ base, CalM l.prog w ⟨K, fun _ => NBank, w⟩ mg base 3 C0 NBank "kind" (spBank_kind ⟨C0, T0, T1, f7, f8, f9, f10, f11, f12, f2, f3, f4, f6, f5, f13, f14, f22, f23, f24, f25, f26, f28, f29, f30, f27, f31, f32, f33, f34⟩) := fun base => ⟨T.Bank, by decide +kernel, _, _, _, fnBank_kind (G := ⟨K, fun _ => NBank, w⟩) (c := ⟨C0, T0, T1, f7, f8, f9, f10, f11, f12, f2, f3, f4, f6, f5, f13, f14, f22, f23, f24, f25, f26, f28, f29, f30, f27, f31, f32, f33, f34⟩) rfl B T (U37 base) F42, ⟨a42, i42, k42⟩, b42⟩
  have U43 : ∀ base, CalM l.prog w ⟨K, fun _ => NBank, w⟩ mg base 3 C0 NBank "node" (spBank_node ⟨C0, T0, T1, f7, f8, f9, f10, f11, f12, f2, f3, f4, f6, f5, f13, f14, f22, f23, f24, f25, f26, f28, f29, f30, f27, f31, f32, f33, f34⟩) := fun base => ⟨T.Bank, by decide +kernel, _, _, _, fnBank_node (G := ⟨K, fun _ => NBank, w⟩) (c := ⟨C0, T0, T1, f7, f8, f9, f10, f11, f12, f2, f3, f4, f6, f5, f13, f14, f22, f23, f24, f25, f26, f28, f29, f30, f27, f31, f32, f33, f34⟩) rfl B T (U37 base) F43, ⟨a43, i43, k43⟩, b43⟩
  have U44 : ∀ base, CalM l.prog w ⟨K, fun _ => NBank, w⟩ mg base 1 C0 NBank "names" (spBank_names ⟨C0, T0, T1, f7, f8, f9, f10, f11, f12, f2, f3, f4, f6, f5, f13, f14, f22, f23, f24, f25, f26, f28, f29, f30, f27, f31, f32, f33, f34⟩) := fun base => ⟨T.Bank, by decide +kernel, _, _, _, fnBank_names (G := ⟨K, fun _ => NBank, w⟩) (c := ⟨C0, T0, T1, f7, f8, f9, f10, f11, f12, f2, f3, f4, f6, f5, f13, f14, f22, f23, f24, f25, f26, f28, f29, f30, f27, f31, f32, f33, f34⟩) rfl B T  F44, ⟨a44, i44, k44⟩, b44⟩
  have U45 : ∀ base, Cal l.prog w ⟨K, fun _ => NBank, w⟩ mg base 1 "_law_spring" (sp_law_spring ⟨C0, T0, T1, f7, f8, f9, f10, f11, f12, f2, f3, f4, f6, f5, f13, f14, f22, f23, f24, f25, f26, f28, f29, f30, f27, f31, f32, f33, f34⟩) := fun base => ⟨_, _, _, fn_law_spring (G := ⟨K, fun _ => NBank, w⟩) (c := ⟨C0, T0, T1, f7, f8, f9, f10, f11, f12, f2, f3, f4, f6, f5, f13, f14, f22, f23, f24, f25, f26, f28, f29, f30, f27, f31, f32, f33, f34⟩) rfl B T  F45, PySem.W.mg_of X G a45, k45, b45⟩
  have U46 : ∀ base, Cal l.prog w ⟨K, fun _ => NBank, w⟩ mg base 1 "_law_draw" (sp_law_draw ⟨C0, T0, T1, f7, f8, f9, f10, f11, f12, f2, f3, f4, f6, f5, f13, f14, f22, f23, f24, f25, f26, f28, f29, f30, f27, f31, f32, f33, f34⟩) := fun base => ⟨_, _, _, fn_law_draw (G := ⟨K, fun _ => NBank, w⟩) (c := ⟨C0, T0, T1, f7, f8, f9, f10, f11, f12, f2, f3, f4, f6, f5, f13, f14, f22, f23, f24, f25, f26, f28, f29, f30, f27, f31, f32, f33, f34⟩) rfl B T  F46, PySem.W.mg_of X G a46, k46, b46⟩
  have U47 : ∀ base, Cal l.prog w ⟨K, fun _ => NBank, w⟩ mg base 2 "_law_words" (sp_law_words ⟨C0, T0, T1, f7, f8, f9, f10, f11, f12, f2, f3, f4, f6, f5, f13, f14, f22, f23, f24, f25, f26, f28, f29, f30, f27, f31, f32, f33, f34⟩) := fun base => ⟨_, _, _, fn_law_words (G := ⟨K, fun _ => NBank, w⟩) (c := ⟨C0, T0, T1, f7, f8, f9, f10, f11, f12, f2, f3, f4, f6, f5, f13, f14, f22, f23, f24, f25, f26, f28, f29, f30, f27, f31, f32, f33, f34⟩) rfl B T (U46 base) F47, PySem.W.mg_of X G a47, k47, b47⟩
  have U48 : ∀ base, Cal l.prog w ⟨K, fun _ => NBank, w⟩ mg base 1 "_law_signs" (sp_law_signs ⟨C0, T0, T1, f7, f8, f9, f10, f11, f12, f2, f3, f4, f6, f5, f13, f14, f22, f23, f24, f25, f26, f28, f29, f30, f27, f31, f32, f33, f34⟩) := fun base => ⟨_, _, _, fn_law_signs (G := ⟨K, fun _ => NBank, w⟩) (c := ⟨C0, T0, T1, f7, f8, f9, f10, f11, f12, f2, f3, f4, f6, f5, f13, f14, f22, f23, f24, f25, f26, f28, f29, f30, f27, f31, f32, f33, f34⟩) rfl B T  F48, PySem.W.mg_of X G a48, k48, b48⟩
  have U49 : ∀ base, Cal l.prog w ⟨K, fun _ => NBank, w⟩ mg base 1 "_law_number" (sp_law_number ⟨C0, T0, T1, f7, f8, f9, f10, f11, f12, f2, f3, f4, f6, f5, f13, f14, f22, f23, f24, f25, f26, f28, f29, f30, f27, f31, f32, f33, f34⟩) := fun base => ⟨_, _, _, fn_law_number (G := ⟨K, fun _ => NBank, w⟩) (c := ⟨C0, T0, T1, f7, f8, f9, f10, f11, f12, f2, f3, f4, f6, f5, f13, f14, f22, f23, f24, f25, f26, f28, f29, f30, f27, f31, f32, f33, f34⟩) rfl B T  F49, PySem.W.mg_of X G a49, k49, b49⟩
  have U50 : ∀ base, Cal l.prog w ⟨K, fun _ => NBank, w⟩ mg base 1 "_law_whole" (sp_law_whole ⟨C0, T0, T1, f7, f8, f9, f10, f11, f12, f2, f3, f4, f6, f5, f13, f14, f22, f23, f24, f25, f26, f28, f29, f30, f27, f31, f32, f33, f34⟩) := fun base => ⟨_, _, _, fn_law_whole (G := ⟨K, fun _ => NBank, w⟩) (c := ⟨C0, T0, T1, f7, f8, f9, f10, f11, f12, f2, f3, f4, f6, f5, f13, f14, f22, f23, f24, f25, f26, f28, f29, f30, f27, f31, f32, f33, f34⟩) rfl B T  F50, PySem.W.mg_of X G a50, k50, b50⟩
  have U51 : ∀ base, Cal l.prog w ⟨K, fun _ => NBank, w⟩ mg base 4 "all_under" (spall_under ⟨C0, T0, T1, f7, f8, f9, f10, f11, f12, f2, f3, f4, f6, f5, f13, f14, f22, f23, f24, f25, f26, f28, f29, f30, f27, f31, f32, f33, f34⟩) := fun base => ⟨_, _, _, fnall_under (G := ⟨K, fun _ => NBank, w⟩) (c := ⟨C0, T0, T1, f7, f8, f9, f10, f11, f12, f2, f3, f4, f6, f5, f13, f14, f22, f23, f24, f25, f26, f28, f29, f30, f27, f31, f32, f33, f34⟩) rfl B T (U43 base) F51, PySem.W.mg_of X G a51, k51, b51⟩
  have U52 : ∀ base, Cal l.prog w ⟨K, fun _ => NBank, w⟩ mg base 4 "need_model" (spneed_model ⟨C0, T0, T1, f7, f8, f9, f10, f11, f12, f2, f3, f4, f6, f5, f13, f14, f22, f23, f24, f25, f26, f28, f29, f30, f27, f31, f32, f33, f34⟩) := fun base => ⟨_, _, _, fnneed_model (G := ⟨K, fun _ => NBank, w⟩) (c := ⟨C0, T0, T1, f7, f8, f9, f10, f11, f12, f2, f3, f4, f6, f5, f13, f14, f22, f23, f24, f25, f26, f28, f29, f30, f27, f31, f32, f33, f34⟩) rfl B T (U44 base) (U19 base) F52, PySem.W.mg_of X G a52, k52, b52⟩
  have U53 : ∀ base, Cal l.prog w ⟨K, fun _ => NBank, w⟩ mg base 5 "worths_under" (spworths_under ⟨C0, T0, T1, f7, f8, f9, f10, f11, f12, f2, f3, f4, f6, f5, f13, f14, f22, f23, f24, f25, f26, f28, f29, f30, f27, f31, f32, f33, f34⟩) := fun base => ⟨_, _, _, fnworths_under (G := ⟨K, fun _ => NBank, w⟩) (c := ⟨C0, T0, T1, f7, f8, f9, f10, f11, f12, f2, f3, f4, f6, f5, f13, f14, f22, f23, f24, f25, f26, f28, f29, f30, f27, f31, f32, f33, f34⟩) rfl B T (U51 base) (U43 base) (U17 base) (U16 base) (U42 base) F53, PySem.W.mg_of X G a53, k53, b53⟩
  have U54 : ∀ base, Cal l.prog w ⟨K, fun _ => NBank, w⟩ mg base 6 "worth_of" (spworth_of ⟨C0, T0, T1, f7, f8, f9, f10, f11, f12, f2, f3, f4, f6, f5, f13, f14, f22, f23, f24, f25, f26, f28, f29, f30, f27, f31, f32, f33, f34⟩) := fun base => ⟨_, _, _, fnworth_of (G := ⟨K, fun _ => NBank, w⟩) (c := ⟨C0, T0, T1, f7, f8, f9, f10, f11, f12, f2, f3, f4, f6, f5, f13, f14, f22, f23, f24, f25, f26, f28, f29, f30, f27, f31, f32, f33, f34⟩) rfl B T (U42 base) (U52 base) (U53 base) F54, PySem.W.mg_of X G a54, k54, b54⟩
  have U55 : ∀ base, Cal l.prog w ⟨K, fun _ => NBank, w⟩ mg base 7 "_law_cuts" (sp_law_cuts ⟨C0, T0, T1, f7, f8, f9, f10, f11, f12, f2, f3, f4, f6, f5, f13, f14, f22, f23, f24, f25, f26, f28, f29, f30, f27, f31, f32, f33, f34⟩) := fun base => ⟨_, _, _, fn_law_cuts (G := ⟨K, fun _ => NBank, w⟩) (c := ⟨C0, T0, T1, f7, f8, f9, f10, f11, f12, f2, f3, f4, f6, f5, f13, f14, f22, f23, f24, f25, f26, f28, f29, f30, f27, f31, f32, f33, f34⟩) rfl B T (UG40_3_0 base) (UG40_3_1 base) (U49 base) (U42 base) (U50 base) (U54 base) F55, PySem.W.mg_of X G a55, k55, b55⟩
  have U56 : ∀ base, Cal l.prog w ⟨K, fun _ => NBank, w⟩ mg base 7 "_law_chosen" (sp_law_chosen ⟨C0, T0, T1, f7, f8, f9, f10, f11, f12, f2, f3, f4, f6, f5, f13, f14, f22, f23, f24, f25, f26, f28, f29, f30, f27, f31, f32, f33, f34⟩) := fun base => ⟨_, _, _, fn_law_chosen (G := ⟨K, fun _ => NBank, w⟩) (c := ⟨C0, T0, T1, f7, f8, f9, f10, f11, f12, f2, f3, f4, f6, f5, f13, f14, f22, f23, f24, f25, f26, f28, f29, f30, f27, f31, f32, f33, f34⟩) rfl B T (UG40_3_0 base) (U54 base) (U50 base) F56, PySem.W.mg_of X G a56, k56, b56⟩
  refine ⟨(PySem.W.fnOf "law" "law" (defArgs stlaw) (defBody stlaw) (defScope stlaw) .none kV57 dc57 pm57 an57 cd57 ct57), fun s v => .of_eq rfl, fun base _ _ => ?_⟩
  have FL : FnD l.prog w ⟨K, fun _ => NBank, w⟩ mg base CX0 8 _ _ ["_law_script"] (splaw ⟨C0, T0, T1, f7, f8, f9, f10, f11, f12, f2, f3, f4, f6, f5, f13, f14, f22, f23, f24, f25, f26, f28, f29, f30, f27, f31, f32, f33, f34⟩) := fnlaw (G := ⟨K, fun _ => NBank, w⟩) (c := ⟨C0, T0, T1, f7, f8, f9, f10, f11, f12, f2, f3, f4, f6, f5, f13, f14, f22, f23, f24, f25, f26, f28, f29, f30, f27, f31, f32, f33, f34⟩) rfl B T (U45 base) (U46 base) (U47 base) (U39 base) (U41 base) (UG40_2_1 base) (UG40_3_0 base) (U48 base) (U55 base) (U56 base) F57
  exact FnOk.imp FL fun vs H Q E h => law_start h
theorem walk {l : PySem.W.OpenLaw} {q : Program} {loose : List Str} {XP : (Str → Option Value) → Heap → Prop} {YP : World → Heap → Prop} {d : DefRec} {K : Params → PySem.W.Frag} (hn : l.most = some 63) (hdf : d.params.defaults = [])
    (hY : ∀ (w : World) (h : Heap), YP w h → (K w.params).In h)
    (F : ∀ (w : World) (mg : Str → Option Value) (fa : Addr) (h : Heap), (K w.params).In h → h.Ns mainGlobals mg → mg d.name = some (.ref fa) →
      ∃ fd : FuncData, (∀ (s : Shared) (u : Value), BindsTo s fd ⟨[u], []⟩ [("_law_script", u)]) ∧ ∀ base : Heap, (K w.params).In base → base.Ns mainGlobals mg → FnOk l.prog w (K w.params) mg base CX0 8 fa fd ["_law_script"] (spLaw (K w.params))) :
    PySem.W.WalkO q loose XP YP l.row.toRowW d [] (fun f vs => PySem.call f vs) :=
  L2.walk_of (n := 63) (k := 8) (x := "_law_script") (CX := fun _ => CX0) (sp := fun w => spLaw (K w.params)) hn (by decide) hdf ⟨rfl, by decide, by decide⟩ hY F (fun _ _ a ns hl _ hS => ⟨a, ns, rfl, hS, hl, fun _ => rfl⟩) fun _ _ _ _ _ z => z
end DL
open PySem PySem.W PyProof.Rows
set_option maxRecDepth 100000 in
set_option maxHeartbeats 0 in
theorem PySem.Challenge.cw_pushproof_k19_cut_joined_chosen_holds : PySem.Challenge.rw_pushproof_k19_cut_joined_chosen.Holds := by
  w_on; o_law; k_head; (case hw => w_witness2)
  k_fill
  refine DL.walk (l := PySem.Challenge.rw_pushproof_k19_cut_joined_chosen) rfl rfl (fun w h Y => PySem.W.kIn_of Y) ?F
  case F =>
    intro w mg fa h KX G hmg
    refine' DL.all_mk KX G hmg ?a0 ?l0 ?c0 ?k0 ?a1 ?l1 ?c1 ?k1 ?a2 ?l2 ?c2 ?k2 ?a3 ?l3 ?c3 ?k3 ?a4 ?l4 ?c4 ?k4 ?a5 ?l5 ?c5 ?k5 ?a6 ?l6 ?c6 ?k6 ?a7 ?l7 ?c7 ?k7 ?a8 ?l8 ?c8 ?k8 ?a9 ?l9 ?c9 ?k9 ?a10 ?l10 ?c10 ?k10 ?a11 ?l11 ?c11 ?k11 ?a12 ?l12 ?c12 ?k12 ?a13 ?l13 ?c13 ?k13 ?a14 ?l14 ?c14 ?k14 ?a15 ?l15 ?c15 ?k15 ?a16 ?l16 ?c16 ?k16 ?a17 ?l17 ?c17 ?k17 ?a18 ?l18 ?c18 ?k18 ?a19 ?l19 ?c19 ?k19 ?a20 ?l20 ?c20 ?k20 ?a21 ?l21 ?c21 ?k21 ?a22 ?l22 ?c22 ?k22 ?a23 ?l23 ?c23 ?k23 ?a24 ?l24 ?c24 ?k24 ?a25 ?l25 ?c25 ?k25 ?a26 ?l26 ?c26 ?k26 ?a27 ?l27 ?c27 ?k27 ?a28 ?l28 ?c28 ?k28 ?a29 ?l29 ?c29 ?k29 ?a30 ?l30 ?c30 ?k30 ?a31 ?l31 ?c31 ?k31 ?a32 ?l32 ?c32 ?k32 ?a33 ?l33 ?c33 ?k33 ?a34 ?l34 ?c34 ?k34 ?a35 ?l35 ?c35 ?k35 ?a36 ?l36 ?c36 ?k36 ?a37 ?l37 ?c37 ?k37 ?a38 ?l38 ?c38 ?k38 ?a39 ?i39 ?l39 ?c39 ?k39 ?a40 ?i40 ?l40 ?c40 ?k40 ?q40 ?t40 ?p40 ?u40 ?a41 ?i41 ?l41 ?c41 ?k41 ?a42 ?i42 ?l42 ?c42 ?k42 ?a43 ?i43 ?l43 ?c43 ?k43 ?a44 ?i44 ?l44 ?c44 ?k44 ?a45 ?l45 ?c45 ?k45 ?a46 ?l46 ?c46 ?k46 ?a47 ?l47 ?c47 ?k47 ?a48 ?l48 ?c48 ?k48 ?a49 ?l49 ?c49 ?k49 ?a50 ?l50 ?c50 ?k50 ?a51 ?l51 ?c51 ?k51 ?a52 ?l52 ?c52 ?k52 ?a53 ?l53 ?c53 ?k53 ?a54 ?l54 ?c54 ?k54 ?a55 ?l55 ?c55 ?k55 ?a56 ?l56 ?c56 ?k56 ?a57 ?l57 ?c57 ?k57 ?aC0 ?pg0 ?hd0 ?po0 ?sa0 ?mk0 ?kc0 ?n0_0 ?n0_1 ?n0_2 ?n0_3 ?gg0 ?gl0 ?gg1 ?gl1 ?gg2 ?gg3 ?gg4 ?gg5 ?gt0 ?tl0 ?tk0 ?ty0 ?tt0 ?gt1 ?tl1 ?tk1 ?ty1 ?tt1 ?z0 ?z1 ?z2 ?z3 ?z4 ?z5 ?z6 ?z7 ?z8 ?z9 ?z10 ?z11 ?z12 ?z13
    (case aC0 => k_is)
    (case gg0 => k_is)
    (case gg1 => k_is)
    (case gg2 => k_is)
    (case gg3 => k_is)
    (case gg4 => k_is)
    (case gg5 => k_is)
    (case gt0 => k_is)
    (case gt1 => k_is)
    (case tl0 => k_is)
    (case tl1 => k_is)
    (case a0 => k_is)
    (case l0 => k_is)
    (case c0 => k_is)
    (case k0 => k_is)
    (case a1 => k_is)
    (case l1 => k_is)
    (case c1 => k_is)
    (case k1 => k_is)
    (case a2 => k_is)
    (case l2 => k_is)
    (case c2 => k_is)
    (case k2 => k_is)
    (case a3 => k_is)
    (case l3 => k_is)
    (case c3 => k_is)
    (case k3 => k_is)
    (case a4 => k_is)
    (case l4 => k_is)
    (case c4 => k_is)
    (case k4 => k_is)
    (case a5 => k_is)
    (case l5 => k_is)
    (case c5 => k_is)
    (case k5 => k_is)
    (case a6 => k_is)
    (case l6 => k_is)
    (case c6 => k_is)
    (case k6 => k_is)
    (case a7 => k_is)
    (case l7 => k_is)
    (case c7 => k_is)
    (case k7 => k_is)
    (case a8 => k_is)
    (case l8 => k_is)
    (case c8 => k_is)
    (case k8 => k_is)
    (case a9 => k_is)
    (case l9 => k_is)
    (case c9 => k_is)
    (case k9 => k_is)
    (case a10 => k_is)
    (case l10 => k_is)
    (case c10 => k_is)
    (case k10 => k_is)
    (case a11 => k_is)
    (case l11 => k_is)
    (case c11 => k_is)
    (case k11 => k_is)
    (case a12 => k_is)
    (case l12 => k_is)
    (case c12 => k_is)
    (case k12 => k_is)
    (case a13 => k_is)
    (case l13 => k_is)
    (case c13 => k_is)
    (case k13 => k_is)
    (case a14 => k_is)
    (case l14 => k_is)
    (case c14 => k_is)
    (case k14 => k_is)
    (case a15 => k_is)
    (case l15 => k_is)
    (case c15 => k_is)
    (case k15 => k_is)
    (case a16 => k_is)
    (case l16 => k_is)
    (case c16 => k_is)
    (case k16 => k_is)
    (case a17 => k_is)
    (case l17 => k_is)
    (case c17 => k_is)
    (case k17 => k_is)
    (case a18 => k_is)
    (case l18 => k_is)
    (case c18 => k_is)
    (case k18 => k_is)
    (case a19 => k_is)
    (case l19 => k_is)
    (case c19 => k_is)
    (case k19 => k_is)
    (case a20 => k_is)
    (case l20 => k_is)
    (case c20 => k_is)
    (case k20 => k_is)
    (case a21 => k_is)
    (case l21 => k_is)
    (case c21 => k_is)
    (case k21 => k_is)
    (case a22 => k_is)
    (case l22 => k_is)
    (case c22 => k_is)
    (case k22 => k_is)
    (case a23 => k_is)
    (case l23 => k_is)
    (case c23 => k_is)
    (case k23 => k_is)
    (case a24 => k_is)
    (case l24 => k_is)
    (case c24 => k_is)
    (case k24 => k_is)
    (case a25 => k_is)
    (case l25 => k_is)
    (case c25 => k_is)
    (case k25 => k_is)
    (case a26 => k_is)
    (case l26 => k_is)
    (case c26 => k_is)
    (case k26 => k_is)
    (case a27 => k_is)
    (case l27 => k_is)
    (case c27 => k_is)
    (case k27 => k_is)
    (case a28 => k_is)
    (case l28 => k_is)
    (case c28 => k_is)
    (case k28 => k_is)
    (case a29 => k_is)
    (case l29 => k_is)
    (case c29 => k_is)
    (case k29 => k_is)
    (case a30 => k_is)
    (case l30 => k_is)
    (case c30 => k_is)
    (case k30 => k_is)
    (case a31 => k_is)
    (case l31 => k_is)
    (case c31 => k_is)
    (case k31 => k_is)
    (case a32 => k_is)
    (case l32 => k_is)
    (case c32 => k_is)
    (case k32 => k_is)
    (case a33 => k_is)
    (case l33 => k_is)
    (case c33 => k_is)
    (case k33 => k_is)
    (case a34 => k_is)
    (case l34 => k_is)
    (case c34 => k_is)
    (case k34 => k_is)
    (case a35 => k_is)
    (case l35 => k_is)
    (case c35 => k_is)
    (case k35 => k_is)
    (case a36 => k_is)
    (case l36 => k_is)
    (case c36 => k_is)
    (case k36 => k_is)
    (case a37 => k_is)
    (case l37 => k_is)
    (case c37 => k_is)
    (case k37 => k_is)
    (case a38 => k_is)
    (case l38 => k_is)
    (case c38 => k_is)
    (case k38 => k_is)
    (case a39 => k_is)
    (case i39 => k_is)
    (case l39 => k_is)
    (case c39 => k_is)
    (case k39 => k_is)
    (case a40 => k_is)
    (case i40 => k_is)
    (case l40 => k_is)
    (case c40 => k_is)
    (case k40 => k_is)
    (case q40 => k_is)
    (case t40 => k_is)
    (case p40 => k_is)
    (case u40 => k_is)
    (case a41 => k_is)
    (case i41 => k_is)
    (case l41 => k_is)
    (case c41 => k_is)
    (case k41 => k_is)
    (case a42 => k_is)
    (case i42 => k_is)
    (case l42 => k_is)
    (case c42 => k_is)
    (case k42 => k_is)
    (case a43 => k_is)
    (case i43 => k_is)
    (case l43 => k_is)
    (case c43 => k_is)
    (case k43 => k_is)
    (case a44 => k_is)
    (case i44 => k_is)
    (case l44 => k_is)
    (case c44 => k_is)
    (case k44 => k_is)
    (case a45 => k_is)
    (case l45 => k_is)
    (case c45 => k_is)
    (case k45 => k_is)
    (case a46 => k_is)
    (case l46 => k_is)
    (case c46 => k_is)
    (case k46 => k_is)
    (case a47 => k_is)
    (case l47 => k_is)
    (case c47 => k_is)
    (case k47 => k_is)
    (case a48 => k_is)
    (case l48 => k_is)
    (case c48 => k_is)
    (case k48 => k_is)
    (case a49 => k_is)
    (case l49 => k_is)
    (case c49 => k_is)
    (case k49 => k_is)
    (case a50 => k_is)
    (case l50 => k_is)
    (case c50 => k_is)
    (case k50 => k_is)
    (case a51 => k_is)
    (case l51 => k_is)
    (case c51 => k_is)
    (case k51 => k_is)
    (case a52 => k_is)
    (case l52 => k_is)
    (case c52 => k_is)
    (case k52 => k_is)
    (case a53 => k_is)
    (case l53 => k_is)
    (case c53 => k_is)
    (case k53 => k_is)
    (case a54 => k_is)
    (case l54 => k_is)
    (case c54 => k_is)
    (case k54 => k_is)
    (case a55 => k_is)
    (case l55 => k_is)
    (case c55 => k_is)
    (case k55 => k_is)
    (case a56 => k_is)
    (case l56 => k_is)
    (case c56 => k_is)
    (case k56 => k_is)
    (case a57 => k_is)
    (case l57 => k_is)
    (case c57 => k_is)
    (case k57 => k_is)
    (case pg0 => k_is)
    (case hd0 => k_is)
    (case po0 => k_is)
    (case sa0 => k_is)
    (case mk0 => k_is)
    (case kc0 => k_is)
    (case n0_0 => k_is)
    (case n0_1 => k_is)
    (case n0_2 => k_is)
    (case n0_3 => k_is)
    (case gl0 => k_is)
    (case gl1 => k_is)
    (case z0 => k_is)
    (case z1 => k_is)
    (case z2 => k_is)
    (case z3 => k_is)
    (case z4 => k_is)
    (case z5 => k_is)
    (case z6 => k_is)
    (case z7 => k_is)
    (case z8 => k_is)
    (case z9 => k_is)
    (case z10 => k_is)
    (case z11 => k_is)
    (case z12 => k_is)
    (case z13 => k_is)
    (case tk0 => k_keys)
    (case tk1 => k_keys)
    (case ty0 => decide)
    (case ty1 => decide)
    (case tt0 => (repeat (first | exact True.intro | refine And.intro ⟨⟨_, rfl⟩, rfl⟩ ?_)))
    (case tt1 => (repeat (first | exact True.intro | refine And.intro ⟨⟨_, rfl⟩, rfl⟩ ?_)))
